import PyProof.Rows.All
import HandS.ForMost
import HandS.ForExc
import HandS.Flow
import HandS.Conv
import HandS.Style
import HandS.Rev
import HandS.RevRange
import HandS.Deep
import HandS.IsInst
import HandS.SortInts
import HandS.Text
import KE.DataMinMax
import KE.SortData
import KE.DatumOrd
import PySem.Challenge.RW_callsheard_k63_whole_cuts_answer
set_option Elab.async false
set_option linter.all false
set_option maxRecDepth 100000
/-! Data without addresses, and what it means that a value stands for a datum. -/
namespace Fd
open PySem PySem.Spec PyProof.Rows L2

inductive D where
  | non | bl (b : Bool) | int (i : Int) | str (x : Str) | lst (xs : List D) | tup (xs : List D) | scr (ns : List Int)
  | dK (kvs : List (Key × D)) | dT (kvs : List (List Key × D)) | set (ks : List Key) | obj (c : String) (fs : List (Str × D))
  deriving Inhabited

structure Tab where
  K : PySem.W.Frag
  ca : String → Addr

def KTup (K : PySem.W.Frag) (a : Addr) (xs : List V) : Prop :=
  ∃ (o : Obj) (its : Array Value) (n : Nat), K.lookup a = some o ∧ o.cls = .type "tuple" ∧ o.data = .seq its n ∧ its.size ≤ sizeLine ∧ Vals xs its.toList
def KLst (K : PySem.W.Frag) (a : Addr) (xs : List V) : Prop :=
  ∃ (o : Obj) (its : Array Value) (n : Nat), K.lookup a = some o ∧ o.cls = .type "list" ∧ o.dict = none ∧ o.data = .seq its n ∧ its.size ≤ sizeLine ∧ Vals xs its.toList

mutual
def Rep (T : Tab) (B : Addr → Prop) (H : Hp) : D → V → Prop
  | .non, v => v = .non
  | .bl b, v => v = .bl b
  | .int i, v => v = .int i
  | .str x, v => v = .str x
  | .lst ds, v => ∃ a vs, v = .ref a ∧ B a ∧ H a = some (.lst vs) ∧ Reps T B H ds vs
  | .tup ds, v => ∃ a vs, v = .ref a ∧ ((B a ∧ H a = some (.tup vs)) ∨ KTup T.K a vs) ∧ Reps T B H ds vs
  | .scr ns, v => ∃ a, v = .ref a ∧ ((B a ∧ Rd H a (.lst (ns.map V.int))) ∨ KLst T.K a (ns.map V.int))
  | .dK kvs, v => ∃ a ws, v = .ref a ∧ B a ∧ H a = some (.dK ws) ∧ RepK T B H kvs ws
  | .dT kvs, v => ∃ a ws, v = .ref a ∧ B a ∧ H a = some (.dT ws) ∧ RepT T B H kvs ws
  | .set _, _ => False
  | .obj c fs, v => ∃ a dx ws, v = .ref a ∧ B a ∧ H a = some (.ins (T.ca c) dx ws) ∧ RepF T B H fs ws
def Reps (T : Tab) (B : Addr → Prop) (H : Hp) : List D → List V → Prop
  | [], vs => vs = []
  | d :: ds, vs => ∃ v ws, vs = v :: ws ∧ Rep T B H d v ∧ Reps T B H ds ws
def RepK (T : Tab) (B : Addr → Prop) (H : Hp) : List (Key × D) → List (Key × V) → Prop
  | [], vs => vs = []
  | (k, d) :: ds, vs => ∃ v ws, vs = (k, v) :: ws ∧ Rep T B H d v ∧ RepK T B H ds ws
def RepT (T : Tab) (B : Addr → Prop) (H : Hp) : List (List Key × D) → List (List Key × V) → Prop
  | [], vs => vs = []
  | (k, d) :: ds, vs => ∃ v ws, vs = (k, v) :: ws ∧ Rep T B H d v ∧ RepT T B H ds ws
def RepF (T : Tab) (B : Addr → Prop) (H : Hp) : List (Str × D) → List (Str × V) → Prop
  | [], vs => vs = []
  | (k, d) :: ds, vs => ∃ v ws, vs = (k, v) :: ws ∧ Rep T B H d v ∧ RepF T B H ds ws
end

section
variable {T : Tab} {B B' : Addr → Prop} {H H' : Hp}
mutual
theorem Rep.mono (hB : ∀ a, B a → B' a) (hH : ∀ a o, B a → H a = some o → H' a = some o) : ∀ (d : D) (v : V), Rep T B H d v → Rep T B' H' d v
  | .non, v, h => by simpa [Rep] using h
  | .bl b, v, h => by simpa [Rep] using h
  | .int i, v, h => by simpa [Rep] using h
  | .str x, v, h => by simpa [Rep] using h
  | .lst ds, v, h => by
    simp only [Rep] at h ⊢
    obtain ⟨a, vs, e, hb, hh, r⟩ := h
    exact ⟨a, vs, e, hB a hb, hH a _ hb hh, Reps.mono hB hH ds vs r⟩
  | .tup ds, v, h => by
    simp only [Rep] at h ⊢
    obtain ⟨a, vs, e, hb, r⟩ := h
    refine ⟨a, vs, e, ?_, Reps.mono hB hH ds vs r⟩
    rcases hb with ⟨hb, hh⟩ | hk
    · exact .inl ⟨hB a hb, hH a _ hb hh⟩
    · exact .inr hk
  | .scr ns, v, h => by
    simp only [Rep] at h ⊢
    obtain ⟨a, e, hb⟩ := h
    refine ⟨a, e, ?_⟩
    rcases hb with ⟨hb, hh | ⟨o, hh⟩⟩ | hk
    · exact .inl ⟨hB a hb, .inl (hH a _ hb hh)⟩
    · exact .inl ⟨hB a hb, .inr ⟨o, hH a _ hb hh⟩⟩
    · exact .inr hk
  | .dK kvs, v, h => by
    simp only [Rep] at h ⊢
    obtain ⟨a, vs, e, hb, hh, r⟩ := h
    exact ⟨a, vs, e, hB a hb, hH a _ hb hh, RepK.mono hB hH kvs vs r⟩
  | .dT kvs, v, h => by
    simp only [Rep] at h ⊢
    obtain ⟨a, vs, e, hb, hh, r⟩ := h
    exact ⟨a, vs, e, hB a hb, hH a _ hb hh, RepT.mono hB hH kvs vs r⟩
  | .set ks, v, h => by simp only [Rep] at h
  | .obj c fs, v, h => by
    simp only [Rep] at h ⊢
    obtain ⟨a, dx, vs, e, hb, hh, r⟩ := h
    exact ⟨a, dx, vs, e, hB a hb, hH a _ hb hh, RepF.mono hB hH fs vs r⟩
theorem Reps.mono (hB : ∀ a, B a → B' a) (hH : ∀ a o, B a → H a = some o → H' a = some o) : ∀ (d : List D) (v : List V), Reps T B H d v → Reps T B' H' d v
  | [], v, h => by simpa [Reps] using h
  | d :: ds, v, h => by
    simp only [Reps] at h ⊢
    obtain ⟨x, ws, e, r, rs⟩ := h
    exact ⟨x, ws, e, Rep.mono hB hH d x r, Reps.mono hB hH ds ws rs⟩
theorem RepK.mono (hB : ∀ a, B a → B' a) (hH : ∀ a o, B a → H a = some o → H' a = some o) : ∀ (d : List (Key × D)) (v : List (Key × V)), RepK T B H d v → RepK T B' H' d v
  | [], v, h => by simpa [RepK] using h
  | (k, d) :: ds, v, h => by
    simp only [RepK] at h ⊢
    obtain ⟨x, ws, e, r, rs⟩ := h
    exact ⟨x, ws, e, Rep.mono hB hH d x r, RepK.mono hB hH ds ws rs⟩
theorem RepT.mono (hB : ∀ a, B a → B' a) (hH : ∀ a o, B a → H a = some o → H' a = some o) : ∀ (d : List (List Key × D)) (v : List (List Key × V)), RepT T B H d v → RepT T B' H' d v
  | [], v, h => by simpa [RepT] using h
  | (k, d) :: ds, v, h => by
    simp only [RepT] at h ⊢
    obtain ⟨x, ws, e, r, rs⟩ := h
    exact ⟨x, ws, e, Rep.mono hB hH d x r, RepT.mono hB hH ds ws rs⟩
theorem RepF.mono (hB : ∀ a, B a → B' a) (hH : ∀ a o, B a → H a = some o → H' a = some o) : ∀ (d : List (Str × D)) (v : List (Str × V)), RepF T B H d v → RepF T B' H' d v
  | [], v, h => by simpa [RepF] using h
  | (k, d) :: ds, v, h => by
    simp only [RepF] at h ⊢
    obtain ⟨x, ws, e, r, rs⟩ := h
    exact ⟨x, ws, e, Rep.mono hB hH d x r, RepF.mono hB hH ds ws rs⟩
end

theorem rep_non {v : V} : Rep T B H .non v ↔ v = .non := by simp [Rep]
theorem rep_bl {b : Bool} {v : V} : Rep T B H (.bl b) v ↔ v = .bl b := by simp [Rep]
theorem rep_int {i : Int} {v : V} : Rep T B H (.int i) v ↔ v = .int i := by simp [Rep]
theorem rep_str {x : Str} {v : V} : Rep T B H (.str x) v ↔ v = .str x := by simp [Rep]
theorem rep_lst {ds : List D} {v : V} : Rep T B H (.lst ds) v ↔ ∃ a vs, v = .ref a ∧ B a ∧ H a = some (.lst vs) ∧ Reps T B H ds vs := by simp only [Rep]
theorem rep_tup {ds : List D} {v : V} : Rep T B H (.tup ds) v ↔ ∃ a vs, v = .ref a ∧ ((B a ∧ H a = some (.tup vs)) ∨ KTup T.K a vs) ∧ Reps T B H ds vs := by simp only [Rep]
theorem rep_scr {ns : List Int} {v : V} : Rep T B H (.scr ns) v ↔ ∃ a, v = .ref a ∧ ((B a ∧ Rd H a (.lst (ns.map V.int))) ∨ KLst T.K a (ns.map V.int)) := by simp only [Rep]
theorem rep_dK {ds : List (Key × D)} {v : V} : Rep T B H (.dK ds) v ↔ ∃ a vs, v = .ref a ∧ B a ∧ H a = some (.dK vs) ∧ RepK T B H ds vs := by simp only [Rep]
theorem rep_dT {ds : List (List Key × D)} {v : V} : Rep T B H (.dT ds) v ↔ ∃ a vs, v = .ref a ∧ B a ∧ H a = some (.dT vs) ∧ RepT T B H ds vs := by simp only [Rep]
theorem rep_obj {c : String} {fs : List (Str × D)} {v : V} : Rep T B H (.obj c fs) v ↔ ∃ a dx ws, v = .ref a ∧ B a ∧ H a = some (.ins (T.ca c) dx ws) ∧ RepF T B H fs ws := by simp only [Rep]
theorem reps_nil {vs : List V} : Reps T B H [] vs ↔ vs = [] := by simp only [Reps]
theorem reps_cons {d : D} {ds : List D} {vs : List V} : Reps T B H (d :: ds) vs ↔ ∃ v ws, vs = v :: ws ∧ Rep T B H d v ∧ Reps T B H ds ws := by simp only [Reps]

/-- a list's items, one by one -/
theorem reps_iff : ∀ {ds : List D} {vs : List V}, Reps T B H ds vs ↔ ds.length = vs.length ∧ ∀ (i : Nat) (d : D) (v : V), ds[i]? = some d → vs[i]? = some v → Rep T B H d v
  | [], vs => by
    rw [reps_nil]
    constructor
    · rintro rfl; exact ⟨rfl, fun i d v h => by simp at h⟩
    · rintro ⟨h, _⟩; exact List.length_eq_zero_iff.mp h.symm
  | d :: ds, vs => by
    rw [reps_cons]
    constructor
    · rintro ⟨v, ws, rfl, r, rs⟩
      obtain ⟨h1, h2⟩ := reps_iff.mp rs
      refine ⟨by simp [h1], fun i d' v' e1 e2 => ?_⟩
      cases i with
      | zero => simp at e1 e2; subst e1; subst e2; exact r
      | succ i => exact h2 i d' v' (by simpa using e1) (by simpa using e2)
    · rintro ⟨h1, h2⟩
      cases vs with
      | nil => simp at h1
      | cons v ws =>
        refine ⟨v, ws, rfl, h2 0 d v rfl rfl, reps_iff.mpr ⟨by simpa using h1, fun i d' v' e1 e2 => h2 (i + 1) d' v' (by simpa using e1) (by simpa using e2)⟩⟩
theorem Reps.length {ds : List D} {vs : List V} (h : Reps T B H ds vs) : ds.length = vs.length := (reps_iff.mp h).1
theorem Reps.get {ds : List D} {vs : List V} (h : Reps T B H ds vs) {i : Nat} {d : D} (e : ds[i]? = some d) : ∃ v, vs[i]? = some v ∧ Rep T B H d v := by
  obtain ⟨h1, h2⟩ := reps_iff.mp h
  have hi : i < vs.length := by
    have := (List.getElem?_eq_some_iff.mp e).1
    omega
  exact ⟨vs[i], by simp [hi], h2 i d _ e (by simp [hi])⟩
theorem Reps.get' {ds : List D} {vs : List V} (h : Reps T B H ds vs) {i : Nat} {v : V} (e : vs[i]? = some v) : ∃ d, ds[i]? = some d ∧ Rep T B H d v := by
  obtain ⟨h1, h2⟩ := reps_iff.mp h
  have hi : i < ds.length := by
    have := (List.getElem?_eq_some_iff.mp e).1
    omega
  exact ⟨ds[i], by simp [hi], h2 i _ v (by simp [hi]) e⟩
theorem Reps.append {ds es : List D} {vs ws : List V} (h : Reps T B H ds vs) (k : Reps T B H es ws) : Reps T B H (ds ++ es) (vs ++ ws) := by
  induction ds generalizing vs with
  | nil => rw [reps_nil] at h; subst h; exact k
  | cons d ds ih =>
    rw [reps_cons] at h
    obtain ⟨v, us, rfl, r, rs⟩ := h
    exact reps_cons.mpr ⟨v, us ++ ws, rfl, r, ih rs⟩
theorem Reps.one {d : D} {v : V} (h : Rep T B H d v) : Reps T B H [d] [v] := reps_cons.mpr ⟨v, [], rfl, h, reps_nil.mpr rfl⟩
theorem Reps.take {ds : List D} {vs : List V} (h : Reps T B H ds vs) (n : Nat) : Reps T B H (ds.take n) (vs.take n) := by
  rw [reps_iff] at h ⊢
  refine ⟨by simp [h.1], fun i d v e1 e2 => ?_⟩
  rw [List.getElem?_take] at e1 e2
  split at e1
  · simp_all; exact h.2 i d v e1 e2
  · simp at e1
theorem Reps.drop {ds : List D} {vs : List V} (h : Reps T B H ds vs) (n : Nat) : Reps T B H (ds.drop n) (vs.drop n) := by
  rw [reps_iff] at h ⊢
  refine ⟨by simp [h.1], fun i d v e1 e2 => ?_⟩
  rw [List.getElem?_drop] at e1 e2
  exact h.2 _ d v e1 e2
theorem Reps.reverse {ds : List D} {vs : List V} (h : Reps T B H ds vs) : Reps T B H ds.reverse vs.reverse := by
  induction ds generalizing vs with
  | nil => rw [reps_nil] at h; subst h; exact reps_nil.mpr rfl
  | cons d ds ih =>
    rw [reps_cons] at h
    obtain ⟨v, us, rfl, r, rs⟩ := h
    rw [List.reverse_cons, List.reverse_cons]
    exact (ih rs).append (Reps.one r)
theorem Reps.set {ds : List D} {vs : List V} (h : Reps T B H ds vs) {d : D} {v : V} (r : Rep T B H d v) (n : Nat) : Reps T B H (ds.set n d) (vs.set n v) := by
  rw [reps_iff] at h ⊢
  refine ⟨by simp [h.1], fun i d' v' e1 e2 => ?_⟩
  by_cases hi : n = i
  · subst hi
    have h1 : n < ds.length := by have := (List.getElem?_eq_some_iff.mp e1).1; simpa using this
    have h2 : n < vs.length := by have := h.1; omega
    rw [List.getElem?_set_self h1] at e1
    rw [List.getElem?_set_self h2] at e2
    cases e1; cases e2; exact r
  · rw [List.getElem?_set_ne hi] at e1 e2
    exact h.2 i d' v' e1 e2
theorem Reps.ints {ns : List Int} : Reps T B H (ns.map D.int) (ns.map V.int) := by
  rw [reps_iff]
  refine ⟨by simp, fun i d v e1 e2 => ?_⟩
  rw [List.getElem?_map] at e1 e2
  cases q : ns[i]? with
  | none => rw [q] at e1; simp at e1
  | some n => rw [q] at e1 e2; simp at e1 e2; subst e1; subst e2; exact rep_int.mpr rfl
theorem reps_ints : ∀ {ns : List Int} {vs : List V}, Reps T B H (ns.map D.int) vs → vs = ns.map V.int
  | [], vs, h => by simpa [Reps] using h
  | n :: ns, vs, h => by
    rw [List.map_cons, reps_cons] at h
    obtain ⟨v, ws, rfl, r, rs⟩ := h
    rw [rep_int.mp r, reps_ints rs]; rfl
end

/-! ### the state -/
structure Core (H0 : Hp) (B0 B : Addr → Prop) (H : Hp) : Prop where
  same : Same H0 H
  sub : ∀ a, B0 a → B a
  new : ∀ a, B a → B0 a ∨ H0 a = none
  all : ∀ a, B a → H a ≠ none

abbrev En := List (Option D)
def OwnAt (T : Tab) (B : Addr → Prop) (H : Hp) (d : D) (a : Addr) : Prop := match d with
  | .lst ds => ∃ vs, H a = some (.lst vs) ∧ Reps T B H ds vs
  | .dK kvs => ∃ ws, H a = some (.dK ws) ∧ RepK T B H kvs ws
  | .dT kvs => ∃ ws, H a = some (.dT ws) ∧ RepT T B H kvs ws
  | .obj c fs => ∃ dx ws, H a = some (.ins (T.ca c) dx ws) ∧ RepF T B H fs ws
  | _ => False
def Own (T : Tab) (H0 : Hp) (B : Addr → Prop) (H : Hp) (d : D) (v : V) : Prop := ∃ a, v = .ref a ∧ ¬ B a ∧ H0 a = none ∧ OwnAt T B H d a
structure EnOk (T : Tab) (H0 : Hp) (B : Addr → Prop) (ms : List Nat) (en : En) (σ : L2.St) (H : Hp) : Prop where
  len : en.length = σ.length
  rep : ∀ i d, en[i]? = some (some d) → i ∉ ms → ∃ v, σ[i]? = some (some v) ∧ Rep T B H d v
  own : ∀ i d, en[i]? = some (some d) → i ∈ ms → ∃ v, σ[i]? = some (some v) ∧ Own T H0 B H d v
  apart : ∀ i j di dj, en[i]? = some (some di) → en[j]? = some (some dj) → i ∈ ms → j ∈ ms → i ≠ j → σ[i]? ≠ σ[j]?

def SR (T : Tab) (H0 : Hp) (B0 : Addr → Prop) (ms : List Nat) (en : En) (σ : L2.St) (H : Hp) (pend : List (D × V)) : Prop :=
  ∃ B, Core H0 B0 B H ∧ EnOk T H0 B ms en σ H ∧ ∀ p ∈ pend, Rep T B H p.1 p.2

/-- the region behind a step that keeps all that was tracked -/
def Grow (B : Addr → Prop) (H H' : Hp) : Addr → Prop := fun a => B a ∨ (H a = none ∧ H' a ≠ none)

section
variable {T : Tab} {H0 H H' : Hp} {B0 B B' : Addr → Prop} {ms : List Nat} {en : En} {σ : L2.St} {pend pend' : List (D × V)} {d : D} {v : V}
theorem Core.refl (hB : ∀ a, B a → H a ≠ none) : Core H B B H := ⟨Same.refl H, fun _ h => h, fun _ h => .inl h, hB⟩
theorem none_of_same {a : Addr} (s : Same H H') (h : H' a = none) : H a = none := s.free h
theorem Core.grow (c : Core H0 B0 B H) (s : Same H H') : Core H0 B0 (Grow B H H') H' :=
  ⟨c.same.trans s, fun a h => .inl (c.sub a h), fun a h => by
    rcases h with h | ⟨h, _⟩
    · exact c.new a h
    · exact .inr (c.same.free h), fun a h => by
    rcases h with h | ⟨_, h⟩
    · intro z; exact c.all a h (s.free z)
    · exact h⟩
theorem Rep.grow (s : Same H H') (h : Rep T B H d v) : Rep T (Grow B H H') H' d v := Rep.mono (fun _ h => .inl h) (fun a o _ e => s a o e) d v h
theorem Reps.grow (s : Same H H') {ds : List D} {vs : List V} (h : Reps T B H ds vs) : Reps T (Grow B H H') H' ds vs := Reps.mono (fun _ h => .inl h) (fun a o _ e => s a o e) ds vs h
theorem OwnAt.grow (s : Same H H') {a : Addr} (h : OwnAt T B H d a) : OwnAt T (Grow B H H') H' d a := by
  have hB : ∀ a, B a → Grow B H H' a := fun _ h => .inl h
  have hH : ∀ a o, B a → H a = some o → H' a = some o := fun a o _ e => s a o e
  cases d with
  | lst ds => obtain ⟨vs, e, r⟩ := h; exact ⟨vs, s _ _ e, Reps.mono hB hH _ _ r⟩
  | dK ds => obtain ⟨vs, e, r⟩ := h; exact ⟨vs, s _ _ e, RepK.mono hB hH _ _ r⟩
  | dT ds => obtain ⟨vs, e, r⟩ := h; exact ⟨vs, s _ _ e, RepT.mono hB hH _ _ r⟩
  | obj c fs => obtain ⟨dx, vs, e, r⟩ := h; exact ⟨dx, vs, s _ _ e, RepF.mono hB hH _ _ r⟩
  | _ => exact h.elim
theorem OwnAt.there {a : Addr} (h : OwnAt T B H d a) : H a ≠ none := by
  intro z
  cases d with
  | lst ds => obtain ⟨vs, e, r⟩ := h; rw [z] at e; cases e
  | dK ds => obtain ⟨vs, e, r⟩ := h; rw [z] at e; cases e
  | dT ds => obtain ⟨vs, e, r⟩ := h; rw [z] at e; cases e
  | obj c fs => obtain ⟨dx, vs, e, r⟩ := h; rw [z] at e; cases e
  | _ => exact h.elim
theorem Own.grow (s : Same H H') (h : Own T H0 B H d v) : Own T H0 (Grow B H H') H' d v := by
  obtain ⟨a, e, nb, n0, o⟩ := h
  refine ⟨a, e, fun z => ?_, n0, o.grow s⟩
  rcases z with z | ⟨z, _⟩
  · exact nb z
  · exact o.there z
theorem EnOk.grow (s : Same H H') (e : EnOk T H0 B ms en σ H) : EnOk T H0 (Grow B H H') ms en σ H' :=
  ⟨e.len, fun i d h1 h2 => let ⟨v, a, b⟩ := e.rep i d h1 h2; ⟨v, a, b.grow s⟩, fun i d h1 h2 => let ⟨v, a, b⟩ := e.own i d h1 h2; ⟨v, a, b.grow s⟩, e.apart⟩
theorem SR.drop1 {x y : D × V} (h : SR T H0 B0 ms en σ H (x :: y :: pend)) : SR T H0 B0 ms en σ H (x :: pend) := by
  obtain ⟨B, c, e, p⟩ := h
  exact ⟨B, c, e, fun q hq => p q (by rcases List.mem_cons.mp hq with h | h; exact h ▸ List.mem_cons_self; exact List.mem_cons_of_mem _ (List.mem_cons_of_mem _ h))⟩
theorem SR.sub (h : SR T H0 B0 ms en σ H pend) (k : ∀ p ∈ pend', p ∈ pend) : SR T H0 B0 ms en σ H pend' := by
  obtain ⟨B, c, e, p⟩ := h
  exact ⟨B, c, e, fun q hq => p q (k q hq)⟩
theorem SR.tail {x : D × V} (h : SR T H0 B0 ms en σ H (x :: pend)) : SR T H0 B0 ms en σ H pend := h.sub fun _ => List.mem_cons_of_mem _
/-- a value that needs no heap -/
def Flat : D → V → Prop
  | .non, v => v = .non
  | .bl b, v => v = .bl b
  | .int i, v => v = .int i
  | .str x, v => v = .str x
  | _, _ => False
theorem Flat.rep {d : D} {v : V} (h : Flat d v) : Rep T B H d v := by
  cases d <;> first | exact h.elim | (simp only [Rep]; exact h)
theorem SR.flat (h : SR T H0 B0 ms en σ H pend) (f : Flat d v) : SR T H0 B0 ms en σ H ((d, v) :: pend) := by
  obtain ⟨B, c, e, p⟩ := h
  exact ⟨B, c, e, fun q hq => by rcases List.mem_cons.mp hq with rfl | h; exact f.rep; exact p q h⟩
/-- all owned things frozen but those of ms' -/
theorem SR.weaken {ms' : List Nat} (h : SR T H0 B0 ms en σ H pend) (k : ∀ i ∈ ms', i ∈ ms) : SR T H0 B0 ms' en σ H pend := by
  obtain ⟨B, c, e, p⟩ := h
  let B1 : Addr → Prop := fun a => B a ∨ ∃ i d, i ∈ ms ∧ i ∉ ms' ∧ en[i]? = some (some d) ∧ σ[i]? = some (some (.ref a))
  have hB : ∀ a, B a → B1 a := fun _ h => .inl h
  have hH : ∀ a o, B a → H a = some o → H a = some o := fun _ _ _ e => e
  have own1 : ∀ {d : D} {a : Addr}, OwnAt T B H d a → OwnAt T B1 H d a := fun {d a} h => by
    cases d with
    | lst ds => obtain ⟨vs, e, r⟩ := h; exact ⟨vs, e, Reps.mono hB hH _ _ r⟩
    | dK ds => obtain ⟨vs, e, r⟩ := h; exact ⟨vs, e, RepK.mono hB hH _ _ r⟩
    | dT ds => obtain ⟨vs, e, r⟩ := h; exact ⟨vs, e, RepT.mono hB hH _ _ r⟩
    | obj c fs => obtain ⟨dx, vs, e, r⟩ := h; exact ⟨dx, vs, e, RepF.mono hB hH _ _ r⟩
    | _ => exact h.elim
  refine ⟨B1, ⟨c.same, fun a h => .inl (c.sub a h), fun a h => ?_, fun a h => ?_⟩, ⟨e.len, fun i d h1 h2 => ?_, fun i d h1 h2 => ?_, fun i j di dj a1 a2 b1 b2 => e.apart i j di dj a1 a2 (k i b1) (k j b2)⟩, fun q hq => Rep.mono hB hH _ _ (p q hq)⟩
  · rcases h with h | ⟨i, d, h1, _, h3, h4⟩
    · exact c.new a h
    · obtain ⟨v, e1, b, rfl, nb, n0, _⟩ := e.own i d h3 h1
      rw [h4] at e1; cases e1; exact .inr n0
  · rcases h with h | ⟨i, d, h1, _, h3, h4⟩
    · exact c.all a h
    · obtain ⟨v, e1, b, rfl, nb, n0, o⟩ := e.own i d h3 h1
      rw [h4] at e1; cases e1; exact o.there
  · by_cases hi : i ∈ ms
    · obtain ⟨v, e1, b, rfl, nb, n0, o⟩ := e.own i d h1 hi
      refine ⟨.ref b, e1, ?_⟩
      have hb : B1 b := .inr ⟨i, d, hi, h2, h1, e1⟩
      have o1 := own1 o
      cases d with
      | lst ds => obtain ⟨vs, e, r⟩ := o1; exact rep_lst.mpr ⟨b, vs, rfl, hb, e, r⟩
      | dK ds => obtain ⟨vs, e, r⟩ := o1; exact rep_dK.mpr ⟨b, vs, rfl, hb, e, r⟩
      | dT ds => obtain ⟨vs, e, r⟩ := o1; exact rep_dT.mpr ⟨b, vs, rfl, hb, e, r⟩
      | obj c fs => obtain ⟨dx, vs, e, r⟩ := o1; exact rep_obj.mpr ⟨b, dx, vs, rfl, hb, e, r⟩
      | _ => exact o.elim
    · obtain ⟨v, e1, r⟩ := e.rep i d h1 hi
      exact ⟨v, e1, Rep.mono hB hH _ _ r⟩
  · obtain ⟨v, e1, b, rfl, nb, n0, o⟩ := e.own i d h1 (k i h2)
    refine ⟨.ref b, e1, b, rfl, fun z => ?_, n0, own1 o⟩
    rcases z with z | ⟨j, d', h3, h4, h5, h6⟩
    · exact nb z
    · have hij : i ≠ j := fun z => h4 (z ▸ h2)
      exact e.apart i j d d' h1 h5 (k i h2) h3 hij (e1.trans h6.symm)
theorem same_upd {p : Addr} {o : HO} (h : H p = none) : Same H (upd H p o) := fun b x e => by
  rw [upd_ne (ne_of_none e h)]; exact e
theorem SR.grow (h : SR T H0 B0 ms en σ H pend) (s : Same H H') : SR T H0 B0 ms en σ H' pend := by
  obtain ⟨B, c, e, p⟩ := h
  exact ⟨_, c.grow s, e.grow s, fun q hq => (p q hq).grow s⟩
/-- a new object -/
theorem SR.new {p : Addr} {o : HO} (h : SR T H0 B0 ms en σ H pend) (n : H p = none)
    (r : ∀ B, Core H0 B0 B H → (∀ q ∈ pend, Rep T B H q.1 q.2) → Rep T (Grow B H (upd H p o)) (upd H p o) d (.ref p)) : SR T H0 B0 ms en σ (upd H p o) ((d, .ref p) :: pend) := by
  obtain ⟨B, c, e, q⟩ := h
  have s := same_upd (o := o) n
  exact ⟨_, c.grow s, e.grow s, fun z hz => by rcases List.mem_cons.mp hz with rfl | h; exact r B c q; exact (q z h).grow s⟩
theorem grow_new {p : Addr} {o : HO} (n : H p = none) : Grow B H (upd H p o) p := .inr ⟨n, by rw [upd_same]; simp⟩
theorem SR.newL {p : Addr} {ds : List D} {vs : List V} (h : SR T H0 B0 ms en σ H pend) (n : H p = none) (r : ∀ B, Core H0 B0 B H → (∀ q ∈ pend, Rep T B H q.1 q.2) → Reps T B H ds vs) :
    SR T H0 B0 ms en σ (upd H p (.lst vs)) ((.lst ds, .ref p) :: pend) :=
  h.new n fun B c q => rep_lst.mpr ⟨p, vs, rfl, grow_new n, upd_same, (r B c q).grow (same_upd n)⟩
theorem SR.newT {p : Addr} {ds : List D} {vs : List V} (h : SR T H0 B0 ms en σ H pend) (n : H p = none) (r : ∀ B, Core H0 B0 B H → (∀ q ∈ pend, Rep T B H q.1 q.2) → Reps T B H ds vs) :
    SR T H0 B0 ms en σ (upd H p (.tup vs)) ((.tup ds, .ref p) :: pend) :=
  h.new n fun B c q => rep_tup.mpr ⟨p, vs, rfl, .inl ⟨grow_new n, upd_same⟩, (r B c q).grow (same_upd n)⟩
end
end Fd

set_option Elab.async false
set_option linter.all false
set_option maxRecDepth 100000
/-! What an expression makes of the data in the slots. -/
namespace Fd
open PySem PySem.Spec PyProof.Rows L2

inductive R (α : Type) where
  | ok (a : α) | exc (c : String) (fs : List (Str × D)) | bad
def R.bind {α β : Type} (x : R α) (k : α → R β) : R β := match x with
  | .ok a => k a
  | .exc c fs => .exc c fs
  | .bad => .bad
@[simp] theorem R.bind_ok {α β : Type} (a : α) (k : α → R β) : (R.ok a).bind k = k a := rfl
@[simp] theorem R.bind_exc {α β : Type} (c : String) (fs : List (Str × D)) (k : α → R β) : (R.exc c fs : R α).bind k = .exc c fs := rfl
@[simp] theorem R.bind_bad {α β : Type} (k : α → R β) : (R.bad : R α).bind k = .bad := rfl

def ExcRep (T : Tab) (B : Addr → Prop) (H : Hp) (c : String) (fs : List (Str × D)) (cls : Value) (dd : Option Addr) : Prop :=
  cls = .ref (T.ca c) ∧ (fs = [] ∨ ∃ dx ws, dd = some dx ∧ B dx ∧ H dx = some (.xd ws) ∧ RepF T B H fs ws)
def SX (T : Tab) (H0 : Hp) (B0 : Addr → Prop) (en : En) (σ : L2.St) (H : Hp) (c : String) (fs : List (Str × D)) (cls : Value) (dd : Option Addr) : Prop :=
  ∃ B, Core H0 B0 B H ∧ EnOk T H0 B [] en σ H ∧ ExcRep T B H c fs cls dd

section
variable (T : Tab) (W : WX) (ms : List Nat)
def EPost (H0 : Hp) (B0 : Addr → Prop) (en : En) (σ : L2.St) (pend : List (D × V)) (r : R D) (Q : VK) : Prop := match r with
  | .ok d => ∀ v H', SR T H0 B0 ms en σ H' ((d, v) :: pend) → Q v H'
  | .exc c fs => ∀ cls dd H', SX T H0 B0 en σ H' c fs cls dd → W cls dd σ H'
  | .bad => False
def BPost (H0 : Hp) (B0 : Addr → Prop) (en : En) (σ : L2.St) (pend : List (D × V)) (r : R Bool) (Q : Bool → Hp → Prop) : Prop := match r with
  | .ok b => ∀ H', SR T H0 B0 ms en σ H' pend → Q b H'
  | .exc c fs => ∀ cls dd H', SX T H0 B0 en σ H' c fs cls dd → W cls dd σ H'
  | .bad => False
def SRL (H0 : Hp) (B0 : Addr → Prop) (en : En) (σ : L2.St) (H : Hp) (ds : List D) (vs : List V) (pend : List (D × V)) : Prop :=
  ∃ B, Core H0 B0 B H ∧ EnOk T H0 B ms en σ H ∧ (∀ p ∈ pend, Rep T B H p.1 p.2) ∧ Reps T B H ds vs
def APost (H0 : Hp) (B0 : Addr → Prop) (en : En) (σ : L2.St) (pend : List (D × V)) (r : R (List D)) (Q : List V → Hp → Prop) : Prop := match r with
  | .ok ds => ∀ vs H', SRL T ms H0 B0 en σ H' ds vs pend → Q vs H'
  | .exc c fs => ∀ cls dd H', SX T H0 B0 en σ H' c fs cls dd → W cls dd σ H'
  | .bad => False
def tF (f : En → R D) : TE := fun σ H Q => ∃ H0 B0 en pend, SR T H0 B0 ms en σ H pend ∧ EPost T W ms H0 B0 en σ pend (f en) Q
def cF (f : En → R Bool) : TT := fun σ H Q => ∃ H0 B0 en pend, SR T H0 B0 ms en σ H pend ∧ BPost T W ms H0 B0 en σ pend (f en) Q
def aF (f : En → R (List D)) : TA := fun σ H Q => ∃ H0 B0 en pend, SR T H0 B0 ms en σ H pend ∧ APost T W ms H0 B0 en σ pend (f en) Q
end

theorem mE {X : Cx} {e : Expr} {t t' : TE} (h : PE X e t) (m : ∀ σ H Q, t' σ H Q → t σ H Q) : PE X e t' := ⟨fun pins s σ H Q I q => h.run pins s σ H Q I (m _ _ _ q)⟩
theorem mT {X : Cx} {e : Expr} {t t' : TT} (h : PT X e t) (m : ∀ σ H Q, t' σ H Q → t σ H Q) : PT X e t' := ⟨fun pins s σ H Q I q => h.run pins s σ H Q I (m _ _ _ q)⟩
theorem mW {X : Cx} {e : Expr} {t t' : TT} (h : PW X e t) (m : ∀ σ H Q, t' σ H Q → t σ H Q) : PW X e t' := ⟨fun wh pins s σ H Q I q => h.run wh pins s σ H Q I (m _ _ _ q)⟩
theorem mA {X : Cx} {es : List Expr} {t t' : TA} (h : PA X es t) (m : ∀ σ H Q, t' σ H Q → t σ H Q) : PA X es t' := ⟨fun p pins s σ H Q I q => h.run p pins s σ H Q I (m _ _ _ q)⟩

/-! ### the meanings -/
abbrev EF := En → R D
def eVar (i : Nat) : EF := fun en => match en[i]? with
  | some (some d) => .ok d
  | _ => .bad
def eC (d : D) : EF := fun _ => .ok d
def eB2 (op : D → D → R D) (f g : EF) : EF := fun en => (f en).bind fun x => (g en).bind fun y => op x y
def eU (op : D → R D) (f : EF) : EF := fun en => (f en).bind op
def aNil : En → R (List D) := fun _ => .ok []
def aCons (f : EF) (g : En → R (List D)) : En → R (List D) := fun en => (f en).bind fun x => (g en).bind fun xs => .ok (x :: xs)
def eCall (F : List D → R D) (g : En → R (List D)) : EF := fun en => (g en).bind F
abbrev CF := En → R Bool
def isTr : D → R Bool
  | .non => .ok false
  | .bl b => .ok b
  | .int i => .ok (i != 0)
  | .str x => if x.length ≤ 16777216 then .ok ((x.length : Int) != 0) else .bad
  | .lst xs => .ok (!xs.isEmpty)
  | .tup xs => .ok (!xs.isEmpty)
  | .dK xs => .ok (!xs.isEmpty)
  | _ => .bad
def blOf : D → R Bool
  | .bl b => .ok b
  | _ => .bad
def cTr (f : EF) : CF := fun en => (f en).bind isTr
def cBl (f : EF) : CF := fun en => (f en).bind blOf
def cNot (c : CF) : CF := fun en => (c en).bind fun b => .ok (!b)
def cAnd (c d : CF) : CF := fun en => (c en).bind fun b => if b = true then d en else .ok false
def cOr (c d : CF) : CF := fun en => (c en).bind fun b => if b = true then .ok true else d en
def eIf (c : CF) (f g : EF) : EF := fun en => (c en).bind fun b => if b = true then f en else g en
def eAnd (f g : EF) : EF := fun en => (f en).bind fun x => (isTr x).bind fun b => if b = true then g en else .ok x
def eOr (f g : EF) : EF := fun en => (f en).bind fun x => (isTr x).bind fun b => if b = true then .ok x else g en
def eNot (f : EF) : EF := fun en => (f en).bind fun x => (isTr x).bind fun b => .ok (.bl (!b))

/-! ### one part after another -/
section
variable {X : Cx} {T : Tab} {W : WX} {ms : List Nat} {H0 : Hp} {B0 : Addr → Prop} {en : En} {σ : L2.St} {H : Hp} {pend : List (D × V)}

theorem SRL.toSR {ds : List D} {vs : List V} (h : SRL T ms H0 B0 en σ H ds vs pend) : SR T H0 B0 ms en σ H pend := let ⟨B, c, e, p, _⟩ := h; ⟨B, c, e, p⟩
theorem SR.nilL (h : SR T H0 B0 ms en σ H pend) : SRL T ms H0 B0 en σ H [] [] pend := let ⟨B, c, e, p⟩ := h; ⟨B, c, e, p, reps_nil.mpr rfl⟩
theorem SRL.cons {d : D} {v : V} {ds : List D} {vs : List V} (h : SRL T ms H0 B0 en σ H ds vs ((d, v) :: pend)) : SRL T ms H0 B0 en σ H (d :: ds) (v :: vs) pend := by
  obtain ⟨B, c, e, p, r⟩ := h
  exact ⟨B, c, e, fun q hq => p q (List.mem_cons_of_mem _ hq), reps_cons.mpr ⟨v, vs, rfl, p _ List.mem_cons_self, r⟩⟩
theorem EPost.imp {pend' : List (D × V)} {r : R D} {Q : VK} (h : EPost T W ms H0 B0 en σ pend r Q) (k : ∀ p ∈ pend, p ∈ pend') : EPost T W ms H0 B0 en σ pend' r Q := by
  cases r with
  | ok d => exact fun v H' s => h v H' (s.sub fun p hp => by rcases List.mem_cons.mp hp with z | z; exact z ▸ List.mem_cons_self; exact List.mem_cons_of_mem _ (k p z))
  | exc c fs => exact h
  | bad => exact h
theorem BPost.imp {pend' : List (D × V)} {r : R Bool} {Q : Bool → Hp → Prop} (h : BPost T W ms H0 B0 en σ pend r Q) (k : ∀ p ∈ pend, p ∈ pend') : BPost T W ms H0 B0 en σ pend' r Q := by
  cases r with
  | ok d => exact fun H' s => h H' (s.sub k)
  | exc c fs => exact h
  | bad => exact h
/-- a part's value goes on -/
theorem EPost.step {r : R D} {k : D → R D} {Q Q' : VK} (h : EPost T W ms H0 B0 en σ pend (r.bind k) Q)
    (c : ∀ d v H', SR T H0 B0 ms en σ H' ((d, v) :: pend) → EPost T W ms H0 B0 en σ ((d, v) :: pend) (k d) Q → Q' v H') : EPost T W ms H0 B0 en σ pend r Q' := by
  cases r with
  | ok d => exact fun v H' s => c d v H' s (EPost.imp h fun _ => List.mem_cons_of_mem _)
  | exc c fs => exact h
  | bad => exact h
theorem EPost.stepB {r : R Bool} {k : Bool → R D} {Q : VK} {Q' : Bool → Hp → Prop} (h : EPost T W ms H0 B0 en σ pend (r.bind k) Q)
    (c : ∀ d H', SR T H0 B0 ms en σ H' pend → EPost T W ms H0 B0 en σ pend (k d) Q → Q' d H') : BPost T W ms H0 B0 en σ pend r Q' := by
  cases r with
  | ok d => exact fun H' s => c d H' s h
  | exc c fs => exact h
  | bad => exact h
theorem EPost.stepA {r : R (List D)} {k : List D → R D} {Q : VK} {Q' : List V → Hp → Prop} (h : EPost T W ms H0 B0 en σ pend (r.bind k) Q)
    (c : ∀ d v H', SRL T ms H0 B0 en σ H' d v pend → EPost T W ms H0 B0 en σ pend (k d) Q → Q' v H') : APost T W ms H0 B0 en σ pend r Q' := by
  cases r with
  | ok d => exact fun v H' s => c d v H' s h
  | exc c fs => exact h
  | bad => exact h
theorem BPost.step {r : R D} {k : D → R Bool} {Q : Bool → Hp → Prop} {Q' : VK} (h : BPost T W ms H0 B0 en σ pend (r.bind k) Q)
    (c : ∀ d v H', SR T H0 B0 ms en σ H' ((d, v) :: pend) → BPost T W ms H0 B0 en σ ((d, v) :: pend) (k d) Q → Q' v H') : EPost T W ms H0 B0 en σ pend r Q' := by
  cases r with
  | ok d => exact fun v H' s => c d v H' s (BPost.imp h fun _ => List.mem_cons_of_mem _)
  | exc c fs => exact h
  | bad => exact h
theorem BPost.stepB {r : R Bool} {k : Bool → R Bool} {Q Q' : Bool → Hp → Prop} (h : BPost T W ms H0 B0 en σ pend (r.bind k) Q)
    (c : ∀ d H', SR T H0 B0 ms en σ H' pend → BPost T W ms H0 B0 en σ pend (k d) Q → Q' d H') : BPost T W ms H0 B0 en σ pend r Q' := by
  cases r with
  | ok d => exact fun H' s => c d H' s h
  | exc c fs => exact h
  | bad => exact h
theorem APost.step {r : R D} {k : D → R (List D)} {Q : List V → Hp → Prop} {Q' : VK} (h : APost T W ms H0 B0 en σ pend (r.bind k) Q)
    (c : ∀ d v H', SR T H0 B0 ms en σ H' ((d, v) :: pend) → APost T W ms H0 B0 en σ pend (k d) Q → Q' v H') : EPost T W ms H0 B0 en σ pend r Q' := by
  cases r with
  | ok d => exact fun v H' s => c d v H' s h
  | exc c fs => exact h
  | bad => exact h

variable {a b e : Expr} {es : List Expr} {pos : Pos} {f g : EF} {c d : CF} {fa : En → R (List D)}

theorem fe_var (i : Nat) {x : Str} (hN : X.N[i]? = some x := by rfl) (hv : Vis X.env.scope x := by first | exact Or.inl rfl | exact Or.inr (Or.inl rfl) | exact Or.inr (Or.inr rfl))
    (hd : (x == ("__debug__" : Str)) = false := by decide) (hcd : (x == ("__classdict__" : Str)) = false := by decide) (hi : i ∉ ms := by decide) : PE X (.Name x pos) (tF T W ms (eVar i)) :=
  mE (pe_var hN hv hd hcd) fun σ H Q ⟨H0, B0, en, pend, sr, post⟩ => by
    unfold eVar at post
    split at post
    · rename_i d e1
      obtain ⟨B, c, e, p⟩ := sr
      obtain ⟨v, e2, r⟩ := e.rep i d e1 hi
      exact ⟨v, e2, post v H ⟨B, c, e, fun q hq => by rcases List.mem_cons.mp hq with rfl | h; exact r; exact p q h⟩⟩
    · exact post.elim
theorem fe_const {dd : D} {v : V} (h : PE X e (tC v)) (fl : Flat dd v) : PE X e (tF T W ms (eC dd)) :=
  mE h fun σ H Q ⟨H0, B0, en, pend, sr, post⟩ => post v H (sr.flat fl)
theorem fe_int {i : Int} {j : Nat} : PE X (.Constant (.int i) j pos) (tF T W ms (eC (.int i))) := fe_const pe_int rfl
theorem fe_bl {i : Bool} {j : Nat} : PE X (.Constant (.bool i) j pos) (tF T W ms (eC (.bl i))) := fe_const pe_bl rfl
theorem fe_non {j : Nat} : PE X (.Constant .none j pos) (tF T W ms (eC .non)) := fe_const pe_non rfl
theorem fe_str {x : Str} {j : Nat} : PE X (.Constant (.str x) j pos) (tF T W ms (eC (.str x))) := fe_const pe_str rfl

/-- an operator on two values that may make a new object -/
def BinSem (T : Tab) (r : R2) (op : D → D → R D) : Prop := ∀ H0 B0 ms en σ H pend dx x dy y d Q, SR T H0 B0 ms en σ H ((dy, y) :: (dx, x) :: pend) → op dx dy = .ok d →
  (∀ v H', SR T H0 B0 ms en σ H' ((d, v) :: (dy, y) :: (dx, x) :: pend) → Q v H') → r x y H Q
def NoExc2 (op : D → D → R D) : Prop := ∀ x y c fs, op x y ≠ .exc c fs
theorem bin_step {r : R2} {op : D → D → R D} (hs : BinSem T r op) (hn : NoExc2 op) {σ : L2.St} {H : Hp} {Q : VK} (h : tF T W ms (eB2 op f g) σ H Q) : tF T W ms f σ H fun x H1 => tF T W ms g σ H1 fun y H2 => r x y H2 Q := by
  obtain ⟨H0, B0, en, pend, sr, post⟩ := h
  refine ⟨H0, B0, en, pend, sr, EPost.step post fun dx x H1 s1 p1 => ⟨H0, B0, en, (dx, x) :: pend, s1, EPost.step p1 fun dy y H2 s2 p2 => ?_⟩⟩
  cases q : op dx dy with
  | ok d => rw [q] at p2; exact hs H0 B0 ms en σ H2 pend dx x dy y d Q s2 q p2
  | exc c fs => exact (hn _ _ _ _ q).elim
  | bad => rw [q] at p2; exact p2.elim
theorem fe_op {op : Operator} {r : R2} {o : D → D → R D} (ho : OpR X (binaryOp op) r) (hs : BinSem T r o) (hn : NoExc2 o) (ha : PE X a (tF T W ms f)) (hb : PE X b (tF T W ms g)) : PE X (.BinOp a op b pos) (tF T W ms (eB2 o f g)) :=
  mE (pe_op ho ha hb) fun σ H Q h => bin_step hs hn h
theorem fe_cmp {op : CmpOp} {r : R2} {o : D → D → R D} (ho : OpR X (compareOp op) r) (hs : BinSem T r o) (hn : NoExc2 o) (ha : PE X a (tF T W ms f)) (hb : PE X b (tF T W ms g)) (hm : behindInMarks op b = false) :
    PE X (.Compare a [op] [b] pos) (tF T W ms (eB2 o f g)) := mE (pe_cmpR ho ha hb hm) fun σ H Q h => bin_step hs hn h
theorem fe_sub {r : R2} {o : D → D → R D} (ho : IxR X r) (hs : BinSem T r o) (hn : NoExc2 o) (ha : PE X a (tF T W ms f)) (hb : PE X b (tF T W ms g)) (hp : PlainIx b := by intro _ _; rfl) : PE X (.Subscript a b pos) (tF T W ms (eB2 o f g)) :=
  mE (pe_ix ho ha hb hp) fun σ H Q h => bin_step hs hn h
theorem ft_cmp {op : CmpOp} {r : R2} {o : D → D → R D} (ho : OpR X (compareOp op) r) (hs : BinSem T r o) (hn : NoExc2 o) (ha : PE X a (tF T W ms f)) (hb : PE X b (tF T W ms g)) (hm : behindInMarks op b = false) :
    PT X (.Compare a [op] [b] pos) (cF T W ms (cBl (eB2 o f g))) := mT (pt_cmpR ho ha hb hm) fun σ H Q ⟨H0, B0, en, pend, sr, post⟩ => by
  refine bin_step hs hn ⟨H0, B0, en, pend, sr, BPost.step post fun dd v H' s p => ?_⟩
  cases dd with
  | bl k =>
    obtain ⟨B, c, e, q⟩ := id s
    have hv : v = .bl k := rep_bl.mp (q (.bl k, v) List.mem_cons_self)
    exact ⟨k, hv, p H' s⟩
  | _ => exact p.elim
/-- a chain a < b < c -/
def eChain (o o' : D → D → R D) (f g h : EF) : EF := fun en => (f en).bind fun x => (g en).bind fun y => (o x y).bind fun z => (blOf z).bind fun k => if k = true then (h en).bind fun w => o' y w else .ok (.bl false)
theorem chain_step {r r' : R2} {o o' : D → D → R D} {h : EF} (hs : BinSem T r o) (hn : NoExc2 o) (hs' : BinSem T r' o') (hn' : NoExc2 o') {σ : L2.St} {H : Hp} {Q : VK} (w : tF T W ms (eChain o o' f g h) σ H Q) :
    tF T W ms f σ H fun x H1 => tF T W ms g σ H1 fun y H2 => r x y H2 fun z H3 => ∃ k, z = .bl k ∧ if k = true then tF T W ms h σ H3 fun u H4 => r' y u H4 Q else Q (.bl false) H3 := by
  obtain ⟨H0, B0, en, pend, sr, post⟩ := w
  refine ⟨H0, B0, en, pend, sr, EPost.step post fun dx x H1 s1 p1 => ⟨H0, B0, en, (dx, x) :: pend, s1, EPost.step p1 fun dy y H2 s2 p2 => ?_⟩⟩
  cases q : o dx dy with
  | ok d =>
    rw [q] at p2
    refine hs H0 B0 ms en σ H2 pend dx x dy y d _ s2 q fun v H' s3 => ?_
    cases d with
    | bl k =>
      have hv : v = .bl k := by obtain ⟨B, c, e, z⟩ := s3; exact rep_bl.mp (z _ List.mem_cons_self)
      refine ⟨k, hv, ?_⟩
      cases k with
      | true =>
        rw [if_pos rfl]
        have p3 : EPost T W ms H0 B0 en σ ((dy, y) :: (dx, x) :: pend) ((h en).bind fun w => o' dy w) Q := p2
        refine ⟨H0, B0, en, (dy, y) :: (dx, x) :: pend, s3.tail, EPost.step p3 fun dw w H4 s4 p4 => ?_⟩
        cases q' : o' dy dw with
        | ok d' =>
          rw [q'] at p4
          exact hs' H0 B0 ms en σ H4 ((dx, x) :: pend) dy y dw w d' Q s4 q' p4
        | exc c fs => exact (hn' _ _ _ _ q').elim
        | bad => rw [q'] at p4; exact p4.elim
      | false =>
        rw [if_neg (by decide)]
        exact p2 (.bl false) H' (hv ▸ s3)
    | _ => exact p2.elim
  | exc c fs => exact (hn _ _ _ _ q).elim
  | bad => rw [q] at p2; exact p2.elim
end
end Fd

set_option Elab.async false
set_option linter.all false
set_option maxRecDepth 100000
namespace Fd
open PySem PySem.Spec PyProof.Rows L2

section
variable {X : Cx} {T : Tab} {W : WX} {ms : List Nat}
variable {a b e : Expr} {es : List Expr} {pos : Pos} {f g h : EF} {c d : CF} {fa : En → R (List D)}

theorem fe_chain {a b k : Expr} {op op' : CmpOp} {r r' : R2} {o o' : D → D → R D} (ho : OpR X (compareOp op) r) (hs : BinSem T r o) (hn : NoExc2 o) (ho' : OpR X (compareOp op') r') (hs' : BinSem T r' o') (hn' : NoExc2 o')
    (ha : PE X a (tF T W ms f)) (hb : PE X b (tF T W ms g)) (hc : PE X k (tF T W ms h)) (hm : lastMarks [op, op'] [b, k] = false) :
    PE X (.Compare a [op, op'] [b, k] pos) (tF T W ms (eChain o o' f g h)) := mE (pe_chain ho ho' ha hb hc hm) fun σ H Q w => chain_step hs hn hs' hn' w
theorem ft_chain {a b k : Expr} {op op' : CmpOp} {r r' : R2} {o o' : D → D → R D} (ho : OpR X (compareOp op) r) (hs : BinSem T r o) (hn : NoExc2 o) (ho' : OpR X (compareOp op') r') (hs' : BinSem T r' o') (hn' : NoExc2 o')
    (ha : PE X a (tF T W ms f)) (hb : PE X b (tF T W ms g)) (hc : PE X k (tF T W ms h)) (hm : lastMarks [op, op'] [b, k] = false) :
    PT X (.Compare a [op, op'] [b, k] pos) (cF T W ms (cBl (eChain o o' f g h))) := mT (pt_chain ho ho' ha hb hc hm) fun σ H Q ⟨H0, B0, en, pend, sr, post⟩ => by
  refine chain_step hs hn hs' hn' ⟨H0, B0, en, pend, sr, BPost.step post fun dd v H' s p => ?_⟩
  cases dd with
  | bl k =>
    obtain ⟨B, c, e, q⟩ := id s
    have hv : v = .bl k := rep_bl.mp (q (.bl k, v) List.mem_cons_self)
    exact ⟨k, hv, p H' s⟩
  | _ => exact p.elim

/-- truth by the heap -/
theorem tru_of {H0 : Hp} {B0 : Addr → Prop} {en : En} {σ : L2.St} {H : Hp} {pend : List (D × V)} {K : PySem.W.Frag} (hK : K = T.K) {x : D} {v : V} {k : Bool} (s : SR T H0 B0 ms en σ H ((x, v) :: pend)) (hk : isTr x = .ok k) : TruV K v H k := by
  subst hK
  obtain ⟨B, c, e, q⟩ := s
  have r : Rep T B H x v := q _ List.mem_cons_self
  cases x with
  | non => rw [rep_non.mp r]; cases hk; rfl
  | bl b => rw [rep_bl.mp r]; cases hk; rfl
  | int i => rw [rep_int.mp r]; cases hk; rfl
  | str x =>
    rw [rep_str.mp r]
    simp only [isTr] at hk
    split at hk
    · rename_i h; cases hk; exact ⟨by rw [sizeLine_eq]; exact h, rfl⟩
    · cases hk
  | lst ds =>
    obtain ⟨a, vs, rfl, hb, hh, rs⟩ := rep_lst.mp r
    cases hk
    refine .inl ⟨vs, SqL.of hh, ?_⟩
    cases ds with
    | nil => rw [reps_nil] at rs; subst rs; rfl
    | cons d ds => obtain ⟨_, _, rfl, _⟩ := reps_cons.mp rs; rfl
  | tup ds =>
    obtain ⟨a, vs, rfl, hh, rs⟩ := rep_tup.mp r
    cases hk
    refine .inr (.inl ⟨vs, ?_, ?_⟩)
    · rcases hh with ⟨_, hh⟩ | hh
      · exact SqT.of hh
      · exact .inr hh
    · cases ds with
      | nil => rw [reps_nil] at rs; subst rs; rfl
      | cons d ds => obtain ⟨_, _, rfl, _⟩ := reps_cons.mp rs; rfl
  | dK ds =>
    obtain ⟨a, vs, rfl, hb, hh, rs⟩ := rep_dK.mp r
    cases hk
    refine .inr (.inr ⟨vs, hh, ?_⟩)
    cases ds with
    | nil => simp only [RepK] at rs; subst rs; rfl
    | cons d ds => obtain ⟨k, d⟩ := d; simp only [RepK] at rs; obtain ⟨_, _, rfl, _⟩ := rs; rfl
  | _ => cases hk
theorem isTr_exc {x : D} {c : String} {fs : List (Str × D)} : isTr x ≠ .exc c fs := by
  intro h
  cases x <;> simp [isTr] at h
  split at h <;> cases h
theorem ft_tr (ha : PE X e (tF T W ms f)) (hK : X.K = T.K := by rfl) (he : ∀ whole, isTrue e X.env whole = (do let v ← whole; standAt e.pos; holding [v] (truthy v)) := by intro _; rfl) : PT X e (cF T W ms (cTr f)) :=
  mT (pt_truth ha he) fun σ H Q ⟨H0, B0, en, pend, sr, post⟩ => ⟨H0, B0, en, pend, sr, BPost.step post fun dd v H' s p => by
    cases q : isTr dd with
    | ok k => rw [q] at p; exact ⟨k, tru_of hK s q, p H' s⟩
    | exc c fs => exact (isTr_exc q).elim
    | bad => rw [q] at p; exact p.elim⟩
theorem ft_not (hc : PT X e (cF T W ms c)) : PT X (.UnaryOp .Not e pos) (cF T W ms (cNot c)) :=
  mT (pt_not hc) fun σ H Q ⟨H0, B0, en, pend, sr, post⟩ => ⟨H0, B0, en, pend, sr, BPost.stepB post fun b H' s p => p H' s⟩
theorem fw_one (hc : PT X e (cF T W ms c)) : PW X (.BoolOp .And [e] pos) (cF T W ms c) := pw_and1 hc
theorem fw_one' (hc : PT X e (cF T W ms c)) : PW X (.BoolOp .Or [e] pos) (cF T W ms c) := pw_or1 hc
theorem fw_and (hc : PT X a (cF T W ms c)) (hd : PW X (.BoolOp .And (b :: es) pos) (cF T W ms d)) : PW X (.BoolOp .And (a :: b :: es) pos) (cF T W ms (cAnd c d)) :=
  mW (pw_and hc hd) fun σ H Q ⟨H0, B0, en, pend, sr, post⟩ => ⟨H0, B0, en, pend, sr, BPost.stepB post fun k H' s p => by
    cases k with
    | true => rw [if_pos rfl]; exact ⟨H0, B0, en, pend, s, p⟩
    | false => rw [if_neg (by decide)]; exact p H' s⟩
theorem fw_or (hc : PT X a (cF T W ms c)) (hd : PW X (.BoolOp .Or (b :: es) pos) (cF T W ms d)) : PW X (.BoolOp .Or (a :: b :: es) pos) (cF T W ms (cOr c d)) :=
  mW (pw_or hc hd) fun σ H Q ⟨H0, B0, en, pend, sr, post⟩ => ⟨H0, B0, en, pend, sr, BPost.stepB post fun k H' s p => by
    cases k with
    | true => rw [if_pos rfl]; exact p H' s
    | false => rw [if_neg (by decide)]; exact ⟨H0, B0, en, pend, s, p⟩⟩
theorem fe_if (hc : PT X e (cF T W ms c)) (ha : PE X a (tF T W ms f)) (hb : PE X b (tF T W ms g)) : PE X (.IfExp e a b pos) (tF T W ms (eIf c f g)) :=
  mE (pe_ifExp hc ha hb) fun σ H Q ⟨H0, B0, en, pend, sr, post⟩ => ⟨H0, B0, en, pend, sr, EPost.stepB post fun k H' s p => by
    cases k with
    | true => rw [if_pos rfl]; exact ⟨H0, B0, en, pend, s, p⟩
    | false => rw [if_neg (by decide)]; exact ⟨H0, B0, en, pend, s, p⟩⟩
theorem fe_one {op} (hc : PE X e (tF T W ms f)) : PE X (.BoolOp op [e] pos) (tF T W ms f) := pe_one hc
theorem fe_and (ha : PE X a (tF T W ms f)) (hb : PE X (.BoolOp .And (b :: es) pos) (tF T W ms g)) (hK : X.K = T.K := by rfl) : PE X (.BoolOp .And (a :: b :: es) pos) (tF T W ms (eAnd f g)) :=
  mE (pe_andT ha hb) fun σ H Q ⟨H0, B0, en, pend, sr, post⟩ => ⟨H0, B0, en, pend, sr, EPost.step post fun dd v H' s p => by
    cases q : isTr dd with
    | ok k =>
      rw [q] at p
      refine ⟨k, tru_of hK s q, ?_⟩
      cases k with
      | true => rw [if_pos rfl]; exact ⟨H0, B0, en, _, s, p⟩
      | false => rw [if_neg (by decide)]; exact p v H' (s.sub fun p hp => by simp only [List.mem_cons] at hp ⊢; rcases hp with h | h | h <;> simp [h])
    | exc c fs => exact (isTr_exc q).elim
    | bad => rw [q] at p; exact p.elim⟩
theorem fe_or (ha : PE X a (tF T W ms f)) (hb : PE X (.BoolOp .Or (b :: es) pos) (tF T W ms g)) (hK : X.K = T.K := by rfl) : PE X (.BoolOp .Or (a :: b :: es) pos) (tF T W ms (eOr f g)) :=
  mE (pe_orT ha hb) fun σ H Q ⟨H0, B0, en, pend, sr, post⟩ => ⟨H0, B0, en, pend, sr, EPost.step post fun dd v H' s p => by
    cases q : isTr dd with
    | ok k =>
      rw [q] at p
      refine ⟨k, tru_of hK s q, ?_⟩
      cases k with
      | true => rw [if_pos rfl]; exact p v H' (s.sub fun p hp => by simp only [List.mem_cons] at hp ⊢; rcases hp with h | h | h <;> simp [h])
      | false => rw [if_neg (by decide)]; exact ⟨H0, B0, en, _, s, p⟩
    | exc c fs => exact (isTr_exc q).elim
    | bad => rw [q] at p; exact p.elim⟩
theorem fe_not (ha : PE X a (tF T W ms f)) (hK : X.K = T.K := by rfl) : PE X (.UnaryOp .Not a pos) (tF T W ms (eNot f)) :=
  mE (pe_notT ha) fun σ H Q ⟨H0, B0, en, pend, sr, post⟩ => ⟨H0, B0, en, pend, sr, EPost.step post fun dd v H' s p => by
    cases q : isTr dd with
    | ok k => rw [q] at p; exact ⟨k, tru_of hK s q, p (.bl (!k)) H' (SR.flat (d := .bl (!k)) (v := .bl (!k)) s rfl)⟩
    | exc c fs => exact (isTr_exc q).elim
    | bad => rw [q] at p; exact p.elim⟩

/-! ### one argument -/
def UnSem (T : Tab) (r : V → Hp → VK → Prop) (op : D → R D) : Prop := ∀ H0 B0 ms en σ H pend dx x d Q, SR T H0 B0 ms en σ H ((dx, x) :: pend) → op dx = .ok d →
  (∀ v H', SR T H0 B0 ms en σ H' ((d, v) :: (dx, x) :: pend) → Q v H') → r x H Q
def NoExc1 (op : D → R D) : Prop := ∀ x c fs, op x ≠ .exc c fs
theorem un_step {r : V → Hp → VK → Prop} {op : D → R D} (hs : UnSem T r op) (hn : NoExc1 op) {σ : L2.St} {H : Hp} {Q : VK} (h : tF T W ms (eU op f) σ H Q) : tF T W ms f σ H fun x H1 => r x H1 Q := by
  obtain ⟨H0, B0, en, pend, sr, post⟩ := h
  refine ⟨H0, B0, en, pend, sr, EPost.step post fun dx x H1 s1 p1 => ?_⟩
  cases q : op dx with
  | ok d => rw [q] at p1; exact hs H0 B0 ms en σ H1 pend dx x d Q s1 q p1
  | exc c fs => exact (hn _ _ _ q).elim
  | bad => rw [q] at p1; exact p1.elim
theorem fe_un {op : UnaryOp} {r : V → Hp → VK → Prop} {o : D → R D} (ho : UnR X (unaryOp op) r) (hs : UnSem T r o) (hn : NoExc1 o) (ha : PE X a (tF T W ms f)) : PE X (.UnaryOp op a pos) (tF T W ms (eU o f)) :=
  mE (pe_un ho ha) fun σ H Q h => un_step hs hn h

/-! ### argument lists, displays -/
theorem fa_nil : PA X [] (aF T W ms aNil) := mA pa_nil fun σ H Q ⟨H0, B0, en, pend, sr, post⟩ => post [] H sr.nilL
theorem fa_cons (ha : PE X e (tF T W ms f)) (hr : PA X es (aF T W ms fa)) (hs : starEach (e :: es) X.env = (false, eval e X.env) :: starEach es X.env := by rfl) : PA X (e :: es) (aF T W ms (aCons f fa)) :=
  mA (pa_cons ha hr hs) fun σ H Q ⟨H0, B0, en, pend, sr, post⟩ => by
    cases q : f en with
    | exc c fs => exact ⟨H0, B0, en, pend, sr, by rw [q]; unfold aCons at post; rw [q] at post; exact post⟩
    | bad => unfold aCons at post; rw [q] at post; exact post.elim
    | ok d =>
      refine ⟨H0, B0, en, pend, sr, ?_⟩
      rw [q]
      intro v H1 s1
      refine ⟨H0, B0, en, (d, v) :: pend, s1, ?_⟩
      unfold aCons at post
      rw [q] at post
      cases q2 : fa en with
      | exc c fs => rw [R.bind_ok, q2] at post; exact post
      | bad => rw [R.bind_ok, q2] at post; exact post.elim
      | ok ds =>
        rw [R.bind_ok, q2] at post
        intro vs H2 s2
        exact post (v :: vs) H2 s2.cons
theorem SRL.tup {H0 : Hp} {B0 : Addr → Prop} {en : En} {σ : L2.St} {H : Hp} {pend : List (D × V)} {ds : List D} {vs : List V} {p : Addr} (s : SRL T ms H0 B0 en σ H ds vs pend) (n : H p = none) : SR T H0 B0 ms en σ (upd H p (.tup vs)) ((.tup ds, .ref p) :: pend) := by
  obtain ⟨B, c, e, q, r⟩ := s
  have sm := same_upd (o := .tup vs) n
  exact ⟨_, c.grow sm, e.grow sm, fun z hz => by
    rcases List.mem_cons.mp hz with rfl | h
    · exact rep_tup.mpr ⟨p, vs, rfl, .inl ⟨grow_new n, upd_same⟩, r.grow sm⟩
    · exact (q z h).grow sm⟩
theorem SRL.lst {H0 : Hp} {B0 : Addr → Prop} {en : En} {σ : L2.St} {H : Hp} {pend : List (D × V)} {ds : List D} {vs : List V} {p : Addr} (s : SRL T ms H0 B0 en σ H ds vs pend) (n : H p = none) : SR T H0 B0 ms en σ (upd H p (.lst vs)) ((.lst ds, .ref p) :: pend) := by
  obtain ⟨B, c, e, q, r⟩ := s
  have sm := same_upd (o := .lst vs) n
  exact ⟨_, c.grow sm, e.grow sm, fun z hz => by
    rcases List.mem_cons.mp hz with rfl | h
    · exact rep_lst.mpr ⟨p, vs, rfl, grow_new n, upd_same, r.grow sm⟩
    · exact (q z h).grow sm⟩
theorem SRL.length {H0 : Hp} {B0 : Addr → Prop} {en : En} {σ : L2.St} {H : Hp} {pend : List (D × V)} {ds : List D} {vs : List V} (s : SRL T ms H0 B0 en σ H ds vs pend) : ds.length = vs.length := let ⟨_, _, _, _, r⟩ := s; r.length
def dTup (ds : List D) : R D := if ds.length ≤ 16777216 then .ok (.tup ds) else .bad
def dLst (ds : List D) : R D := if ds.length ≤ 16777216 then .ok (.lst ds) else .bad
def eTup (g : En → R (List D)) : EF := eCall dTup g
def eLst (g : En → R (List D)) : EF := eCall dLst g
theorem fe_tup {x1} (h : PA X es (aF T W ms fa)) : PE X (.Tuple es x1 pos) (tF T W ms (eTup fa)) :=
  mE (pe_tup h) fun σ H Q ⟨H0, B0, en, pend, sr, post⟩ => ⟨H0, B0, en, pend, sr, EPost.stepA post fun ds vs H' s p => by
    unfold dTup at p
    split at p
    · rename_i hl
      exact ⟨by rw [sizeLine_eq, ← s.length]; exact hl, fun q n => p _ _ (s.tup n)⟩
    · exact p.elim⟩
theorem fe_lst (h : PA X es (aF T W ms fa)) : PE X (.List es pos) (tF T W ms (eLst fa)) :=
  mE (pe_lst h) fun σ H Q ⟨H0, B0, en, pend, sr, post⟩ => ⟨H0, B0, en, pend, sr, EPost.stepA post fun ds vs H' s p => by
    unfold dLst at p
    split at p
    · rename_i hl
      exact ⟨by rw [sizeLine_eq, ← s.length]; exact hl, fun q n => p _ _ (s.lst n)⟩
    · exact p.elim⟩

/-! ### calls -/
/-- a built-in on its arguments -/
def CallSem (T : Tab) (r : List V → Hp → VK → Prop) (F : List D → R D) : Prop := ∀ H0 B0 ms en σ H pend ds vs d Q, SRL T ms H0 B0 en σ H ds vs pend → F ds = .ok d → (∀ v H', SR T H0 B0 ms en σ H' ((d, v) :: pend) → Q v H') → r vs H Q
def NoExcL (F : List D → R D) : Prop := ∀ x c fs, F x ≠ .exc c fs
theorem fe_callB {id : String} {x : Str} {p : Pos} {r : List V → Hp → VK → Prop} {F : List D → R D} (hc : CallR X (.builtin id) r) (hs : CallSem T r F) (hn : NoExcL F) (hm : X.mg x = none) (hv : bootBuiltins x = some (.builtin id))
    (ha : PA X (e :: es) (aF T W ms fa)) (hg : Gl X x := by rfl) (hnm : x ≠ "__name__" := by decide) (hdb : (x == ("__debug__" : Str)) = false := by decide) (he : starEach (e :: es) X.env = (false, eval e X.env) :: starEach es X.env := by rfl) (hpl : (backTo pos (starEach es X.env)).any (·.1) = false := by rfl) :
    PE X (.Call (.Name x p) (e :: es) [] pos) (tF T W ms (eCall F fa)) :=
  mE (pe_callB hc hg hm hv ha hnm hdb he hpl) fun σ H Q ⟨H0, B0, en, pend, sr, post⟩ => ⟨H0, B0, en, pend, sr, EPost.stepA post fun ds vs H' s p => by
    cases q : F ds with
    | ok d => rw [q] at p; exact hs H0 B0 ms en σ H' pend ds vs d Q s q p
    | exc c fs => exact (hn _ _ _ q).elim
    | bad => rw [q] at p; exact p.elim⟩
theorem fe_callTy {id : String} {x : Str} {p : Pos} {r : List V → Hp → VK → Prop} {F : List D → R D} (hc : CallR X (.type id) r) (hs : CallSem T r F) (hn : NoExcL F) (hm : X.mg x = none) (hv : bootBuiltins x = some (.type id))
    (ha : PA X (e :: es) (aF T W ms fa)) (hg : Gl X x := by rfl) (hnm : x ≠ "__name__" := by decide) (hdb : (x == ("__debug__" : Str)) = false := by decide) (he : starEach (e :: es) X.env = (false, eval e X.env) :: starEach es X.env := by rfl) (hpl : (backTo pos (starEach es X.env)).any (·.1) = false := by rfl) :
    PE X (.Call (.Name x p) (e :: es) [] pos) (tF T W ms (eCall F fa)) :=
  mE (pe_callTy hc hg hm hv ha hnm hdb he hpl) fun σ H Q ⟨H0, B0, en, pend, sr, post⟩ => ⟨H0, B0, en, pend, sr, EPost.stepA post fun ds vs H' s p => by
    cases q : F ds with
    | ok d => rw [q] at p; exact hs H0 B0 ms en σ H' pend ds vs d Q s q p
    | exc c fs => exact (hn _ _ _ q).elim
    | bad => rw [q] at p; exact p.elim⟩

/-- what a def promises: F of the data of its arguments -/
def RetPost (T : Tab) (B : Addr → Prop) (H : Hp) (r : R D) (Q : VK) (E : XK) : Prop := match r with
  | .ok d => ∀ v H', Same H H' → Rep T (Grow B H H') H' d v → Q v H'
  | .exc c fs => ∀ cls dd H', Same H H' → ExcRep T (Grow B H H') H' c fs cls dd → E cls dd H'
  | .bad => False
def spF (T : Tab) (n : Nat) (F : List D → R D) : Sp := fun vs H Q E => ∃ B ds, (∀ a, B a → H a ≠ none) ∧ ds.length = n ∧ Reps T B H ds vs ∧ RetPost T B H (F ds) Q E
theorem spF_len {n : Nat} {F : List D → R D} {vs : List V} {H : Hp} {Q : VK} {E : XK} (h : spF T n F vs H Q E) : vs.length = n := by
  obtain ⟨B, ds, _, hl, r, _⟩ := h
  rw [← r.length, hl]
theorem ExcRep.sub {B B' : Addr → Prop} {H : Hp} {c : String} {fs : List (Str × D)} {cls : Value} {dd : Option Addr} (h : ExcRep T B H c fs cls dd) (k : ∀ a, B a → B' a) : ExcRep T B' H c fs cls dd := by
  obtain ⟨e, h⟩ := h
  refine ⟨e, ?_⟩
  rcases h with h | ⟨dx, ws, h1, h2, h3, h4⟩
  · exact .inl h
  · exact .inr ⟨dx, ws, h1, k _ h2, h3, RepF.mono k (fun _ _ _ e => e) _ _ h4⟩
theorem SX.of_call {H0 : Hp} {B0 B : Addr → Prop} {en : En} {σ : L2.St} {H H' : Hp} {c : String} {fs : List (Str × D)} {cls : Value} {dd : Option Addr} (cr : Core H0 B0 B H) (eo : EnOk T H0 B ms en σ H) (s : Same H H')
    (x : ExcRep T (Grow B H H') H' c fs cls dd) : SX T H0 B0 en σ H' c fs cls dd := by
  have sr : SR T H0 B0 ms en σ H [] := ⟨B, cr, eo, fun _ h => by simp at h⟩
  have c1 := cr.grow s
  have e1 := eo.grow s
  obtain ⟨B1, c2, e2, _⟩ : SR T H0 B0 ms en σ H' [] := ⟨_, c1, e1, fun _ h => by simp at h⟩
  -- freeze all
  let BB : Addr → Prop := fun a => Grow B H H' a ∨ ∃ i d, i ∈ ms ∧ en[i]? = some (some d) ∧ σ[i]? = some (some (.ref a))
  have hB : ∀ a, Grow B H H' a → BB a := fun _ h => .inl h
  have hH : ∀ a o, Grow B H H' a → H' a = some o → H' a = some o := fun _ _ _ e => e
  refine ⟨BB, ⟨c1.same, fun a h => .inl (c1.sub a h), fun a h => ?_, fun a h => ?_⟩, ⟨e1.len, fun i d h1 _ => ?_, fun i d _ h => by simp at h, fun i j di dj _ _ h => by simp at h⟩, x.sub hB⟩
  · rcases h with h | ⟨i, d, h1, h3, h4⟩
    · exact c1.new a h
    · obtain ⟨v, q, b, rfl, nb, n0, _⟩ := e1.own i d h3 h1
      rw [h4] at q; cases q; exact .inr n0
  · rcases h with h | ⟨i, d, h1, h3, h4⟩
    · exact c1.all a h
    · obtain ⟨v, q, b, rfl, nb, n0, o⟩ := e1.own i d h3 h1
      rw [h4] at q; cases q; exact o.there
  · by_cases hi : i ∈ ms
    · obtain ⟨v, q, b, rfl, nb, n0, o⟩ := e1.own i d h1 hi
      refine ⟨.ref b, q, ?_⟩
      have hb : BB b := .inr ⟨i, d, hi, h1, q⟩
      cases d with
      | lst ds => obtain ⟨vs, e, r⟩ := o; exact rep_lst.mpr ⟨b, vs, rfl, hb, e, Reps.mono hB hH _ _ r⟩
      | dK ds => obtain ⟨vs, e, r⟩ := o; exact rep_dK.mpr ⟨b, vs, rfl, hb, e, RepK.mono hB hH _ _ r⟩
      | dT ds => obtain ⟨vs, e, r⟩ := o; exact rep_dT.mpr ⟨b, vs, rfl, hb, e, RepT.mono hB hH _ _ r⟩
      | obj c fs => obtain ⟨dx, vs, e, r⟩ := o; exact rep_obj.mpr ⟨b, dx, vs, rfl, hb, e, RepF.mono hB hH _ _ r⟩
      | _ => exact o.elim
    · obtain ⟨v, q, r⟩ := e1.rep i d h1 hi
      exact ⟨v, q, Rep.mono hB hH _ _ r⟩
/-- a state that holds, handed to a callee -/
theorem call_step {n : Nat} {F : List D → R D} {H0 : Hp} {B0 : Addr → Prop} {en : En} {σ : L2.St} {H : Hp} {pend : List (D × V)} {ds : List D} {vs : List V} {Q : VK} (s : SRL T ms H0 B0 en σ H ds vs pend) (hl : ds.length = n)
    (p : EPost T W ms H0 B0 en σ pend (F ds) Q) : spF T n F vs H Q (WE W σ) := by
  obtain ⟨B, c, e, q, r⟩ := s
  refine ⟨B, ds, c.all, hl, r, ?_⟩
  cases z : F ds with
  | ok d =>
    rw [z] at p
    intro v H' sm rp
    exact p v H' ⟨_, c.grow sm, e.grow sm, fun y hy => by
      rcases List.mem_cons.mp hy with rfl | h
      · exact rp
      · exact (q y h).grow sm⟩
  | exc c' fs =>
    rw [z] at p
    intro cls dd H' sm x
    exact p cls dd H' (SX.of_call c e sm x)
  | bad => rw [z] at p; exact p.elim
def nArgs (n : Nat) (F : List D → R D) : List D → R D := fun ds => if ds.length = n then F ds else .bad
theorem fe_call {k n : Nat} {fa0 : Addr} {fd : FuncData} {ps : List Str} {x : Str} {p : Pos} {F : List D → R D} (G : FnOk X.prog X.w X.K X.mg X.base (L2.CX X.prog X.w) k fa0 fd ps (spF T n F)) (hr : Room k X.A) (hm : X.mg x = some (.ref fa0))
    (hk : PySem.W.keepIn X.K (.ref fa0) = true) (hb : Binds X.K fd ps []) (tk : Takes X W) (ha : PA X (e :: es) (aF T W ms fa)) (hn : (e :: es).length = n := by rfl) (hg : Gl X x := by rfl) (hdb : (x == ("__debug__" : Str)) = false := by decide)
    (he : starEach (e :: es) X.env = (false, eval e X.env) :: starEach es X.env := by rfl) (hpl : (backTo pos (starEach es X.env)).any (·.1) = false := by rfl) :
    PE X (.Call (.Name x p) (e :: es) [] pos) (tF T W ms (eCall (nArgs n F) fa)) :=
  mE (pe_callS (E := WE W) G hr hg hm hk hb (fun σ => passAt tk σ) ha hdb he hpl) fun σ H Q ⟨H0, B0, en, pend, sr, post⟩ => ⟨H0, B0, en, pend, sr, EPost.stepA post fun ds vs H' s p => by
    unfold nArgs at p
    split at p
    · rename_i hl; exact call_step s hl p
    · exact p.elim⟩
end
end Fd

set_option Elab.async false
set_option linter.all false
set_option maxRecDepth 100000
/-! The operators' meanings. -/
namespace Fd
open PySem PySem.Spec PyProof.Rows L2

/-- the two values' data, with what stands for them -/
theorem two {T : Tab} {H0 : Hp} {B0 : Addr → Prop} {ms : List Nat} {en : En} {σ : L2.St} {H : Hp} {pend : List (D × V)} {dx dy : D} {x y : V} (s : SR T H0 B0 ms en σ H ((dy, y) :: (dx, x) :: pend)) :
    ∃ B, Core H0 B0 B H ∧ EnOk T H0 B ms en σ H ∧ (∀ p ∈ (dy, y) :: (dx, x) :: pend, Rep T B H p.1 p.2) ∧ Rep T B H dx x ∧ Rep T B H dy y :=
  let ⟨B, c, e, q⟩ := s; ⟨B, c, e, q, q (dx, x) (List.mem_cons_of_mem _ List.mem_cons_self), q (dy, y) List.mem_cons_self⟩
theorem one {T : Tab} {H0 : Hp} {B0 : Addr → Prop} {ms : List Nat} {en : En} {σ : L2.St} {H : Hp} {pend : List (D × V)} {dx : D} {x : V} (s : SR T H0 B0 ms en σ H ((dx, x) :: pend)) :
    ∃ B, Core H0 B0 B H ∧ EnOk T H0 B ms en σ H ∧ (∀ p ∈ (dx, x) :: pend, Rep T B H p.1 p.2) ∧ Rep T B H dx x :=
  let ⟨B, c, e, q⟩ := s; ⟨B, c, e, q, q (dx, x) List.mem_cons_self⟩
theorem tupAt {T : Tab} {B : Addr → Prop} {H : Hp} {a : Addr} {vs : List V} (h : (B a ∧ H a = some (.tup vs)) ∨ KTup T.K a vs) : SqT T.K H a vs := by
  rcases h with ⟨_, h⟩ | h
  · exact SqT.of h
  · exact .inr h
theorem scrAt {T : Tab} {B : Addr → Prop} {H : Hp} {a : Addr} {vs : List V} (h : (B a ∧ Rd H a (.lst vs)) ∨ KLst T.K a vs) : SqL T.K H a vs := by
  rcases h with ⟨_, h⟩ | h
  · exact .inl h
  · exact .inr h
theorem fits_line {n : Nat} (h : n ≤ 16777216) : n ≤ sizeLine := by rw [sizeLine_eq]; exact h

/-! ### numbers -/
def dI (g : Int → Int → D) : D → D → R D
  | .int i, .int j => .ok (g i j)
  | _, _ => .bad
def dIc (C : Int → Int → Bool) (g : Int → Int → D) : D → D → R D
  | .int i, .int j => if C i j = true then .ok (g i j) else .bad
  | _, _ => .bad
theorem dI_exc (g : Int → Int → D) : NoExc2 (dI g) := by
  intro x y c fs h
  unfold dI at h
  split at h <;> cases h
theorem dIc_exc (C : Int → Int → Bool) (g : Int → Int → D) : NoExc2 (dIc C g) := by
  intro x y c fs h
  unfold dIc at h
  split at h
  · split at h <;> cases h
  · cases h
theorem sI {T : Tab} {g : Int → Int → D} {gv : Int → Int → V} (hg : ∀ i j, Flat (g i j) (gv i j)) : BinSem T (rI0 gv) (dI g) := by
  intro H0 B0 ms en σ H pend dx x dy y d Q s h q
  unfold dI at h
  split at h
  · cases h
    obtain ⟨B, c, e, _, r1, r2⟩ := two s
    exact ⟨_, _, rep_int.mp r1, rep_int.mp r2, q _ H (s.flat (hg _ _))⟩
  · cases h
theorem sIc {T : Tab} {C : Int → Int → Prop} {Cb : Int → Int → Bool} {g : Int → Int → D} {gv : Int → Int → V} (hc : ∀ i j, Cb i j = true → C i j) (hg : ∀ i j, Flat (g i j) (gv i j)) : BinSem T (rI C gv) (dIc Cb g) := by
  intro H0 B0 ms en σ H pend dx x dy y d Q s h q
  unfold dIc at h
  split at h
  · split at h
    · rename_i hC
      cases h
      obtain ⟨B, c, e, _, r1, r2⟩ := two s
      exact ⟨_, _, rep_int.mp r1, rep_int.mp r2, hc _ _ hC, q _ H (s.flat (hg _ _))⟩
    · cases h
  · cases h
abbrev dSub := dI fun i j => .int (i - j)
def cDiv (i j : Int) : Bool := decide (0 < j) && decide (j < 1073741824)
def cMod (i j : Int) : Bool := decide (0 < j)
def cPow (i j : Int) : Bool := decide (0 ≤ j) && decide (j ≤ 1000000) && decide (i.natAbs < 2 ^ 64)
def cShr (i j : Int) : Bool := decide (0 ≤ j)
abbrev dDiv := dIc cDiv fun i j => .int (i / j)
abbrev dMod := dIc cMod fun i j => .int (i % j)
abbrev dPow := dIc cPow fun i j => .int (i ^ j.toNat)
abbrev dShl := dIc cPow fun i j => .int (i * 2 ^ j.toNat)
abbrev dShr := dIc cShr fun i j => .int (i / 2 ^ j.toNat)
abbrev dBand := dI fun i j => .int (Builtin.bitAnd i j)
abbrev dBor := dI fun i j => .int (Builtin.bitOr i j)
abbrev dLt := dI fun i j => .bl (decide (i < j))
abbrev dLe := dI fun i j => .bl (decide (i ≤ j))
abbrev dGt := dI fun i j => .bl (decide (j < i))
abbrev dGe := dI fun i j => .bl (decide (j ≤ i))
section
variable {X : Cx} {T : Tab} {W : WX} {ms : List Nat} {a b : Expr} {pos : Pos} {f g : EF}
theorem fe_minus (ha : PE X a (tF T W ms f)) (hb : PE X b (tF T W ms g)) : PE X (.BinOp a .Sub b pos) (tF T W ms (eB2 dSub f g)) := fe_op op_sub (sI fun _ _ => rfl) (dI_exc _) ha hb
theorem fe_div (ha : PE X a (tF T W ms f)) (hb : PE X b (tF T W ms g)) : PE X (.BinOp a .FloorDiv b pos) (tF T W ms (eB2 dDiv f g)) :=
  fe_op op_fdiv (sIc (fun i j h => by simp only [cDiv, Bool.and_eq_true, decide_eq_true_eq] at h; exact h) fun _ _ => rfl) (dIc_exc _ _) ha hb
theorem fe_mod (ha : PE X a (tF T W ms f)) (hb : PE X b (tF T W ms g)) : PE X (.BinOp a .Mod b pos) (tF T W ms (eB2 dMod f g)) :=
  fe_op op_mod (sIc (fun i j h => by simp only [cMod, decide_eq_true_eq] at h; exact h) fun _ _ => rfl) (dIc_exc _ _) ha hb
theorem cPow_ok (i j : Int) (h : cPow i j = true) : CPow i j := by
  simp only [cPow, Bool.and_eq_true, decide_eq_true_eq] at h; exact ⟨h.1.1, h.1.2, h.2⟩
theorem fe_pow (ha : PE X a (tF T W ms f)) (hb : PE X b (tF T W ms g)) : PE X (.BinOp a .Pow b pos) (tF T W ms (eB2 dPow f g)) := fe_op op_pow (sIc cPow_ok fun _ _ => rfl) (dIc_exc _ _) ha hb
theorem fe_shl (ha : PE X a (tF T W ms f)) (hb : PE X b (tF T W ms g)) : PE X (.BinOp a .LShift b pos) (tF T W ms (eB2 dShl f g)) := fe_op op_shl (sIc cPow_ok fun _ _ => rfl) (dIc_exc _ _) ha hb
theorem fe_shr (ha : PE X a (tF T W ms f)) (hb : PE X b (tF T W ms g)) : PE X (.BinOp a .RShift b pos) (tF T W ms (eB2 dShr f g)) :=
  fe_op op_shr (sIc (fun i j h => by simp only [cShr, decide_eq_true_eq] at h; exact h) fun _ _ => rfl) (dIc_exc _ _) ha hb
theorem fe_band (ha : PE X a (tF T W ms f)) (hb : PE X b (tF T W ms g)) : PE X (.BinOp a .BitAnd b pos) (tF T W ms (eB2 dBand f g)) := fe_op op_and (sI fun _ _ => rfl) (dI_exc _) ha hb
theorem fe_bor (ha : PE X a (tF T W ms f)) (hb : PE X b (tF T W ms g)) : PE X (.BinOp a .BitOr b pos) (tF T W ms (eB2 dBor f g)) := fe_op op_or (sI fun _ _ => rfl) (dI_exc _) ha hb
def dNeg : D → R D
  | .int i => .ok (.int (-i))
  | _ => .bad
def dInv : D → R D
  | .int i => .ok (.int (Builtin.bitNot i))
  | _ => .bad
theorem fe_neg (ha : PE X a (tF T W ms f)) : PE X (.UnaryOp .USub a pos) (tF T W ms (eU dNeg f)) := by
  refine fe_un un_neg (fun H0 B0 ms en σ H pend dx x d Q s h q => ?_) (fun x c fs h => ?_) ha
  · unfold dNeg at h
    split at h
    · cases h
      obtain ⟨B, c, e, _, r1⟩ := one s
      exact ⟨_, rep_int.mp r1, q _ H (s.flat rfl)⟩
    · cases h
  · unfold dNeg at h; split at h <;> cases h
theorem fe_inv (ha : PE X a (tF T W ms f)) : PE X (.UnaryOp .Invert a pos) (tF T W ms (eU dInv f)) := by
  refine fe_un un_inv (fun H0 B0 ms en σ H pend dx x d Q s h q => ?_) (fun x c fs h => ?_) ha
  · unfold dInv at h
    split at h
    · cases h
      obtain ⟨B, c, e, _, r1⟩ := one s
      exact ⟨_, rep_int.mp r1, q _ H (s.flat rfl)⟩
    · cases h
  · unfold dInv at h; split at h <;> cases h
end

/-! ### + and * -/
def dAdd : D → D → R D
  | .int i, .int j => .ok (.int (i + j))
  | .str i, .str j => if i.length + j.length ≤ 16777216 then .ok (.str (i ++ j)) else .bad
  | .lst i, .lst j => if i.length + j.length ≤ 16777216 then .ok (.lst (i ++ j)) else .bad
  | .tup i, .tup j => if i.length + j.length ≤ 16777216 then .ok (.tup (i ++ j)) else .bad
  | _, _ => .bad
def dMul : D → D → R D
  | .int i, .int j => if i.natAbs < 2 ^ 64 ∨ j.natAbs < 2 ^ 64 then .ok (.int (i * j)) else .bad
  | .lst i, .int j => if j ≤ 16777216 ∧ -16777216 ≤ j ∧ i.length * j.toNat ≤ 16777216 then .ok (.lst (List.replicate j.toNat i).flatten) else .bad
  | _, _ => .bad
def rCatT0 (K : PySem.W.Frag) : R2 := fun x y H Q => ∃ a b xs ys, x = .ref a ∧ y = .ref b ∧ SqT K H a xs ∧ SqT K H b ys ∧ xs = [] ∧ Q (.ref b) H
theorem op_catT0 {X : Cx} : OpR X (binaryOp .Add) (rCatT0 X.K) := by
  intro pins s σ H x y v u Q I rx ry h
  obtain ⟨a, b, xs, ys, rfl, rfl, ha, hb, rfl, q⟩ := h
  cases rx
  cases ry
  obtain ⟨its, r1, p1, _⟩ := I.tuple ha
  obtain ⟨its2, r2, p2, _⟩ := I.tuple hb
  cases r1
  obtain ⟨⟨cls, dd, data, sl⟩, ho, hc, n, hd⟩ := id p1
  obtain ⟨⟨cls2, dd2, data2, sl2⟩, ho2, hc2, n2, hd2⟩ := id p2
  simp only at hc hd hc2 hd2
  subst hc hd hc2 hd2
  exact concat_meets ⟨_, ho, rfl⟩ ⟨_, ho2, rfl⟩ noFill_tuple_add seq_tuple_add PySem.F.slot_tuple_add PySem.F.entry_tuple_add (PySem.F.args_tuple_add_2 _ _)
      (tuple_addW0 a b _ its2.toArray n n2 dd dd2 sl sl2 (by simp)) ⟨ho, ho2, ⟨.ref b, H, I, rfl, q⟩⟩
theorem sAdd {T : Tab} : BinSem T (fun x y H Q => (rI0 (fun i j => .int (i + j)) x y H Q) ∨ ((∃ i j, x = .str i ∧ y = .str j ∧ i.length + j.length ≤ sizeLine ∧ Q (.str (i ++ j)) H) ∨ (rCat x y H Q ∨ (rCatT T.K x y H Q ∨ rCatT0 T.K x y H Q)))) dAdd := by
  intro H0 B0 ms en σ H pend dx x dy y d Q s h q
  obtain ⟨B, c, e, p, r1, r2⟩ := two s
  unfold dAdd at h
  split at h
  · cases h
    exact .inl ⟨_, _, rep_int.mp r1, rep_int.mp r2, q _ H (s.flat rfl)⟩
  · split at h
    · rename_i hl
      cases h
      exact .inr (.inl ⟨_, _, rep_str.mp r1, rep_str.mp r2, fits_line hl, q _ H (s.flat rfl)⟩)
    · cases h
  · split at h
    · rename_i hl
      cases h
      obtain ⟨a1, vs1, rfl, _, h1, rs1⟩ := rep_lst.mp r1
      obtain ⟨a2, vs2, rfl, _, h2, rs2⟩ := rep_lst.mp r2
      refine .inr (.inr (.inl ⟨_, _, _, _, rfl, rfl, h1, h2, fits_line (by rw [← rs1.length, ← rs2.length]; exact hl), fun z n => q _ _ ?_⟩))
      exact SRL.lst ⟨B, c, e, p, rs1.append rs2⟩ n
    · cases h
  · split at h
    · rename_i i j hl
      cases h
      obtain ⟨a1, vs1, rfl, h1, rs1⟩ := rep_tup.mp r1
      obtain ⟨a2, vs2, rfl, h2, rs2⟩ := rep_tup.mp r2
      have t1 := tupAt h1
      have t2 := tupAt h2
      by_cases hz : vs1 = []
      · subst hz
        have hi : i = [] := List.length_eq_zero_iff.mp rs1.length
        subst hi
        exact .inr (.inr (.inr (.inr ⟨_, _, _, _, rfl, rfl, t1, t2, rfl, q _ H ⟨B, c, e, fun z hz => by
          rcases List.mem_cons.mp hz with rfl | hz
          · exact r2
          · exact p z hz⟩⟩)))
      · refine .inr (.inr (.inr (.inl ⟨_, _, _, _, rfl, rfl, t1, t2, hz, fits_line (by rw [← rs1.length, ← rs2.length]; exact hl), fun hy => ?_, fun hy z n => ?_⟩)))
        · subst hy
          have hj : j = [] := List.length_eq_zero_iff.mp rs2.length
          subst hj
          exact q _ H ⟨B, c, e, fun z hz => by
            rcases List.mem_cons.mp hz with rfl | hz
            · simpa using r1
            · exact p z hz⟩
        · exact q _ _ (SRL.tup ⟨B, c, e, p, rs1.append rs2⟩ n)
    · cases h
  · cases h
theorem flatten_rep {T : Tab} {B : Addr → Prop} {H : Hp} {ds : List D} {vs : List V} (h : Reps T B H ds vs) : ∀ k : Nat, Reps T B H (List.replicate k ds).flatten (List.replicate k vs).flatten
  | 0 => reps_nil.mpr rfl
  | k + 1 => by
    rw [List.replicate_succ, List.replicate_succ, List.flatten_cons, List.flatten_cons]
    exact h.append (flatten_rep h k)
theorem sMul {T : Tab} : BinSem T (fun x y H Q => (rI CMul (fun i j => .int (i * j)) x y H Q) ∨ rRep x y H Q) dMul := by
  intro H0 B0 ms en σ H pend dx x dy y d Q s h q
  obtain ⟨B, c, e, p, r1, r2⟩ := two s
  unfold dMul at h
  split at h
  · split at h
    · rename_i i j hl
      cases h
      refine .inl ⟨_, _, rep_int.mp r1, rep_int.mp r2, ?_, q _ H (s.flat rfl)⟩
      unfold CMul
      rcases hl with hl | hl
      · left; omega
      · right; omega
    · cases h
  · split at h
    · rename_i i j hl
      cases h
      obtain ⟨a1, vs1, rfl, _, h1, rs1⟩ := rep_lst.mp r1
      refine .inr ⟨_, _, _, rfl, rep_int.mp r2, h1, by omega, by omega, fits_line (by rw [← rs1.length]; exact hl.2.2), fun z n => q _ _ ?_⟩
      exact SRL.lst ⟨B, c, e, p, flatten_rep rs1 _⟩ n
    · cases h
  · cases h
theorem dAdd_exc : NoExc2 dAdd := by
  intro x y c fs h
  unfold dAdd at h
  repeat' split at h
  all_goals cases h
theorem dMul_exc : NoExc2 dMul := by
  intro x y c fs h
  unfold dMul at h
  repeat' split at h
  all_goals cases h
section
variable {X : Cx} {T : Tab} {W : WX} {ms : List Nat} {a b : Expr} {pos : Pos} {f g : EF}
theorem fe_add (ha : PE X a (tF T W ms f)) (hb : PE X b (tF T W ms g)) (hK : X.K = T.K := by rfl) : PE X (.BinOp a .Add b pos) (tF T W ms (eB2 dAdd f g)) :=
  fe_op (op_add.or (op_add_str.or (op_cat.or (op_catT.or op_catT0)))) (by rw [hK]; exact sAdd) dAdd_exc ha hb
theorem fe_mul (ha : PE X a (tF T W ms f)) (hb : PE X b (tF T W ms g)) : PE X (.BinOp a .Mult b pos) (tF T W ms (eB2 dMul f g)) := fe_op (op_mul.or op_rep) sMul dMul_exc ha hb
end

/-! ### data as the library has them, == -/
mutual
def toPy : D → Option PyData
  | .non => some .none
  | .bl b => some (.bool b)
  | .int i => some (.int i)
  | .str x => some (.str x)
  | .lst ds => (toPyAll ds).map .list
  | .tup ds => (toPyAll ds).map .tuple
  | _ => none
def toPyAll : List D → Option (List PyData)
  | [] => some []
  | d :: ds => match toPy d, toPyAll ds with
    | some p, some ps => some (p :: ps)
    | _, _ => none
end
section
variable {T : Tab} {B : Addr → Prop} {H : Hp}
mutual
theorem Rep.dp : ∀ (d : D) (v : V) (p : PyData), Rep T B H d v → toPy d = some p → Dp T.K H v p
  | .non, v, p, h, e => by simp only [toPy] at e; cases e; rw [rep_non.mp h]; exact .non
  | .bl b, v, p, h, e => by simp only [toPy] at e; cases e; rw [rep_bl.mp h]; exact .bl b
  | .int i, v, p, h, e => by simp only [toPy] at e; cases e; rw [rep_int.mp h]; exact .int i
  | .str x, v, p, h, e => by simp only [toPy] at e; cases e; rw [rep_str.mp h]; exact .str x
  | .lst ds, v, p, h, e => by
    simp only [toPy] at e
    obtain ⟨ps, e1, rfl⟩ := Option.map_eq_some_iff.mp e
    obtain ⟨a, vs, rfl, _, hh, rs⟩ := rep_lst.mp h
    exact .lst (SqL.of hh) (Reps.dp ds vs ps rs e1)
  | .tup ds, v, p, h, e => by
    simp only [toPy] at e
    obtain ⟨ps, e1, rfl⟩ := Option.map_eq_some_iff.mp e
    obtain ⟨a, vs, rfl, hh, rs⟩ := rep_tup.mp h
    exact .tup (tupAt hh) (Reps.dp ds vs ps rs e1)
  | .scr _, v, p, h, e => by simp only [toPy] at e; cases e
  | .dK _, v, p, h, e => by simp only [toPy] at e; cases e
  | .dT _, v, p, h, e => by simp only [toPy] at e; cases e
  | .set _, v, p, h, e => by simp only [toPy] at e; cases e
  | .obj _ _, v, p, h, e => by simp only [toPy] at e; cases e
theorem Reps.dp : ∀ (ds : List D) (vs : List V) (ps : List PyData), Reps T B H ds vs → toPyAll ds = some ps → DpAll T.K H vs ps
  | [], vs, ps, h, e => by simp only [toPyAll] at e; cases e; rw [reps_nil.mp h]; exact .nil
  | d :: ds, vs, ps, h, e => by
    obtain ⟨v, ws, rfl, r, rs⟩ := reps_cons.mp h
    simp only [toPyAll] at e
    cases h1 : toPy d with
    | none => rw [h1] at e; cases e
    | some p1 =>
      cases h2 : toPyAll ds with
      | none => rw [h1, h2] at e; cases e
      | some ps1 =>
        rw [h1, h2] at e
        cases e
        exact .cons (Rep.dp d v p1 r h1) (Reps.dp ds ws ps1 rs h2)
end
end
/-- == of values that are no containers -/
def eqFlat : D → D → Option Bool
  | .non, .non => some true
  | .non, .int _ => some false | .int _, .non => some false
  | .non, .bl _ => some false | .bl _, .non => some false
  | .non, .str _ => some false | .str _, .non => some false
  | .int i, .int j => some (decide (i = j))
  | .bl i, .bl j => some (decide (i = j))
  | .str i, .str j => some (decide (i = j))
  | .int _, .str _ => some false | .str _, .int _ => some false
  | .bl _, .str _ => some false | .str _, .bl _ => some false
  | _, _ => none
def eqData (x y : D) : Option Bool := match toPy x, toPy y with
  | some d, some e => if SeqAt.shaped d && SeqAt.shaped e then some (PyData.eqv d e) else none
  | _, _ => none
def eqD (x y : D) : Option Bool := match eqFlat x y with
  | some b => some b
  | none => eqData x y
def dEq (x y : D) : R D := match eqD x y with
  | some b => .ok (.bl b)
  | none => .bad
def dNe (x y : D) : R D := match eqD x y with
  | some b => .ok (.bl (!b))
  | none => .bad
theorem eqFlat_ok {x y : D} {b : Bool} {v u : V} {T : Tab} {B : Addr → Prop} {H : Hp} (h : eqFlat x y = some b) (rx : Rep T B H x v) (ry : Rep T B H y u) : scal v u = true ∧ decide (v = u) = b := by
  cases x <;> cases y <;> simp only [eqFlat] at h <;> cases h <;> simp only [Rep] at rx ry <;> subst rx <;> subst ry <;> simp [scal]
theorem eqD_ok {T : Tab} {x y : D} {b : Bool} {v u : V} {B : Addr → Prop} {H : Hp} (h : eqD x y = some b) (rx : Rep T B H x v) (ry : Rep T B H y u) :
    (scal v u = true ∧ decide (v = u) = b) ∨ ∃ d e, Dp T.K H v d ∧ Dp T.K H u e ∧ SeqAt.shaped d = true ∧ SeqAt.shaped e = true ∧ PyData.eqv d e = b := by
  unfold eqD at h
  split at h
  · rename_i h1; cases h; exact .inl (eqFlat_ok h1 rx ry)
  · unfold eqData at h
    split at h
    · rename_i d e h1 h2
      split at h
      · rename_i h3
        cases h
        rw [Bool.and_eq_true] at h3
        exact .inr ⟨d, e, Rep.dp _ _ _ rx h1, Rep.dp _ _ _ ry h2, h3.1, h3.2, rfl⟩
      · cases h
    · cases h
theorem dEq_exc : NoExc2 dEq := by intro x y c fs h; unfold dEq at h; split at h <;> cases h
theorem dNe_exc : NoExc2 dNe := by intro x y c fs h; unfold dNe at h; split at h <;> cases h
theorem sEq {T : Tab} : BinSem T (fun x y H Q => rEq x y H Q ∨ rEqD T.K x y H Q) dEq := by
  intro H0 B0 ms en σ H pend dx x dy y d Q s h q
  obtain ⟨B, c, e, p, r1, r2⟩ := two s
  unfold dEq at h
  split at h
  · rename_i b hb
    cases h
    rcases eqD_ok hb r1 r2 with ⟨h1, h2⟩ | ⟨d, e, h1, h2, h3, h4, h5⟩
    · exact .inl ⟨h1, by rw [h2]; exact q _ H (s.flat rfl)⟩
    · exact .inr ⟨d, e, h1, h2, h3, h4, by rw [h5]; exact q _ H (s.flat rfl)⟩
  · cases h
theorem sNe {T : Tab} : BinSem T (fun x y H Q => rNe x y H Q ∨ rNeD T.K x y H Q) dNe := by
  intro H0 B0 ms en σ H pend dx x dy y d Q s h q
  obtain ⟨B, c, e, p, r1, r2⟩ := two s
  unfold dNe at h
  split at h
  · rename_i b hb
    cases h
    rcases eqD_ok hb r1 r2 with ⟨h1, h2⟩ | ⟨d, e, h1, h2, h3, h4, h5⟩
    · exact .inl ⟨h1, by rw [h2]; exact q _ H (s.flat rfl)⟩
    · exact .inr ⟨d, e, h1, h2, h3, h4, by rw [h5]; exact q _ H (s.flat rfl)⟩
  · cases h
section
variable {X : Cx} {T : Tab} {W : WX} {ms : List Nat} {a b : Expr} {pos : Pos} {f g : EF} {k : Nat}
theorem fe_eq (hr : Room k X.A) (ha : PE X a (tF T W ms f)) (hb : PE X b (tF T W ms g)) (hK : X.K = T.K := by rfl) : PE X (.Compare a [.Eq] [b] pos) (tF T W ms (eB2 dEq f g)) :=
  fe_cmp (op_eq.or (op_eqD hr.units)) (by rw [hK]; exact sEq) dEq_exc ha hb (nomark _)
theorem ft_eq (hr : Room k X.A) (ha : PE X a (tF T W ms f)) (hb : PE X b (tF T W ms g)) (hK : X.K = T.K := by rfl) : PT X (.Compare a [.Eq] [b] pos) (cF T W ms (cBl (eB2 dEq f g))) :=
  ft_cmp (op_eq.or (op_eqD hr.units)) (by rw [hK]; exact sEq) dEq_exc ha hb (nomark _)
theorem fe_ne (hr : Room k X.A) (ha : PE X a (tF T W ms f)) (hb : PE X b (tF T W ms g)) (hK : X.K = T.K := by rfl) : PE X (.Compare a [.NotEq] [b] pos) (tF T W ms (eB2 dNe f g)) :=
  fe_cmp (op_ne.or (op_neD hr.units)) (by rw [hK]; exact sNe) dNe_exc ha hb (nomark _)
theorem ft_ne (hr : Room k X.A) (ha : PE X a (tF T W ms f)) (hb : PE X b (tF T W ms g)) (hK : X.K = T.K := by rfl) : PT X (.Compare a [.NotEq] [b] pos) (cF T W ms (cBl (eB2 dNe f g))) :=
  ft_cmp (op_ne.or (op_neD hr.units)) (by rw [hK]; exact sNe) dNe_exc ha hb (nomark _)
end
end Fd

set_option Elab.async false
set_option linter.all false
set_option maxRecDepth 100000
/-! Places, slices, len, in, is; the built-ins. -/
namespace Fd
open PySem PySem.Spec PyProof.Rows L2

/-! ### places -/
def dIx : D → D → R D
  | .lst ds, .int i => match atI ds i with | some d => .ok d | none => .bad
  | .tup ds, .int i => match atI ds i with | some d => .ok d | none => .bad
  | .scr ns, .int i => match atI ns i with | some n => .ok (.int n) | none => .bad
  | .str z, .int i => if z.length ≤ 16777216 then match atI z.cps.toList i with | some c => .ok (.str ⟨#[c]⟩) | none => .bad else .bad
  | _, _ => .bad
theorem dIx_exc : NoExc2 dIx := by
  intro x y c fs h
  unfold dIx at h
  repeat' split at h
  all_goals cases h
theorem atI_reps {T : Tab} {B : Addr → Prop} {H : Hp} {ds : List D} {vs : List V} (r : Reps T B H ds vs) {i : Int} {d : D} (h : atI ds i = some d) : ∃ v, atI vs i = some v ∧ Rep T B H d v := by
  unfold atI at h ⊢
  rw [← r.length]
  cases q : ixN ds.length i with
  | none => rw [q] at h; cases h
  | some j => rw [q] at h; exact r.get h
theorem atI_map {α β : Type} (f : α → β) {xs : List α} {i : Int} {x : α} (h : atI xs i = some x) : atI (xs.map f) i = some (f x) := by
  unfold atI at h ⊢
  rw [List.length_map]
  cases q : ixN xs.length i with
  | none => rw [q] at h; cases h
  | some j =>
    rw [q] at h
    have h' : xs[j]? = some x := h
    show (xs.map f)[j]? = some (f x)
    rw [List.getElem?_map, h']; rfl
theorem sIx {T : Tab} : BinSem T (rIx T.K) dIx := by
  intro H0 B0 ms en σ H pend dx x dy y d Q s h q
  obtain ⟨B, c, e, p, r1, r2⟩ := two s
  unfold dIx at h
  split at h
  · split at h
    · rename_i hd
      cases h
      obtain ⟨a1, vs1, rfl, _, h1, rs1⟩ := rep_lst.mp r1
      obtain ⟨v, hv, rv⟩ := atI_reps rs1 hd
      exact .inl ⟨_, _, _, v, rfl, rep_int.mp r2, SqL.of h1, hv, q _ H ⟨B, c, e, fun z hz => by rcases List.mem_cons.mp hz with rfl | hz; exact rv; exact p z hz⟩⟩
    · cases h
  · split at h
    · rename_i hd
      cases h
      obtain ⟨a1, vs1, rfl, h1, rs1⟩ := rep_tup.mp r1
      obtain ⟨v, hv, rv⟩ := atI_reps rs1 hd
      exact .inr (.inl ⟨_, _, _, v, rfl, rep_int.mp r2, tupAt h1, hv, q _ H ⟨B, c, e, fun z hz => by rcases List.mem_cons.mp hz with rfl | hz; exact rv; exact p z hz⟩⟩)
    · cases h
  · split at h
    · rename_i hd
      cases h
      obtain ⟨a1, rfl, h1⟩ := rep_scr.mp r1
      exact .inl ⟨_, _, _, _, rfl, rep_int.mp r2, scrAt h1, atI_map V.int hd, q _ H (s.flat rfl)⟩
    · cases h
  · split at h
    · rename_i hl
      split at h
      · rename_i hd
        cases h
        exact .inr (.inr ⟨_, _, _, rep_str.mp r1, rep_int.mp r2, fits_line hl, hd, q _ H (s.flat rfl)⟩)
      · cases h
    · cases h
  · cases h

/-! ### slices -/
def cutD {α : Type} (xs : List α) (lo hi : Option Int) : List α := (xs.drop (HT.sIx xs.length 0 lo)).take (HT.sIx xs.length xs.length hi - HT.sIx xs.length 0 lo)
def dCut (x : D) (lo hi : Option Int) : R D := match x with
  | .lst ds => .ok (.lst (cutD ds lo hi))
  | .tup ds => .ok (.tup (cutD ds lo hi))
  | .str z => if z.length ≤ 16777216 then .ok (.str (cutS z lo hi)) else .bad
  | _ => .bad
def intOf : D → R Int
  | .int i => .ok i
  | _ => .bad
abbrev OF := En → R (Option Int)
def oNone : OF := fun _ => .ok none
def oSome (f : EF) : OF := fun en => (f en).bind fun x => (intOf x).bind fun i => .ok (some i)
def eCut (f : EF) (l h : OF) : EF := fun en => (f en).bind fun x => (l en).bind fun lo => (h en).bind fun hi => dCut x lo hi
/-- the tuple itself where the slice is the whole -/
def rSlTw (K : PySem.W.Frag) : V → Option Int → Option Int → Hp → VK → Prop := fun x lo hi H Q => ∃ a xs, x = .ref a ∧ SqT K H a xs ∧
  (HT.sIx xs.length 0 lo = 0 ∧ HT.sIx xs.length xs.length hi = xs.length) ∧ Q (.ref a) H
section
variable {prog : Program} {w : World} {A : Around} {E : Value → Shared → Prop} {s : Shared}
theorem getItem_tuple_whole {t sl : Addr} {items : Array Value} {vl vu : Value} {lo hi : Option Int} {Q : Value → Shared → Prop} (ht : IsTup s.heap t items) (hs : s.heap.IsSliceOf sl vl vu .none) (pl : IsPart vl lo) (pu : IsPart vu hi)
    (hw : HT.sIx items.size 0 lo = 0 ∧ HT.sIx items.size items.size hi = items.size) (h : Q (.ref t) s) : wpAny (model prog w) A (getItem (.ref t) (.ref sl)) Q E s := by
  obtain ⟨os, hos, hcs, hds⟩ := id hs
  have hTs : s.TypeIs (.ref sl) "slice" := ⟨os, hos, hcs⟩
  unfold getItem
  try with_reducible refine wpAny_holding ?_
  first | refine wpAny_bind (wpAny_pure ?_) | skip
  refine wpAny_bind (wpAny_sequenceKey ht.typeIs (by decide) ?_)
  refine wpAny_bind (wpAny_callSpecial?_slot (name := Str.ofString "__getitem__") ht.typeIs PyProof.Rows.slot_tuple_getitem
    (wpAny_call_entry PyProof.Rows.slot_tuple_getitem ht.typeIs entry_tuple_getitem ?_ (args_tuple_getitem _ _)))
  show wpAny _ _ (Builtin.Tuple.tupleItemsOf (.ref t) >>= _) _ _ s
  refine wpAny_bind (tupleItemsOf_ ht ?_)
  refine wpAny_bind (wpAny_typeOf hTs ?_)
  rw [if_pos (by decide)]
  refine wpAny_bind (HT.sliceApplied_gen hs pl pu ?_)
  have hyes : ((((HT.sIx items.size 0 lo : Nat) : Int) == 0 && (1 : Int) == 1 && (HT.sIx items.size items.size hi - HT.sIx items.size 0 lo) == items.size) = true) := by
    rw [hw.1, hw.2]; simp
  show wpAny _ _ (if (((HT.sIx items.size 0 lo : Nat) : Int) == 0 && (1 : Int) == 1 && (HT.sIx items.size items.size hi - HT.sIx items.size 0 lo) == items.size) = true then _ else _) _ _ s
  rw [if_pos hyes]
  refine wpAny_bind (m := Builtin.Tuple.tupleIsExact _) ?_
  unfold Builtin.Tuple.tupleIsExact
  refine wpAny_bind (wpAny_typeOf ht.typeIs ?_)
  refine wpAny_pure ?_
  rw [if_pos (by decide)]
  refine wpAny_bind (wpAny_rule ?_)
  first
    | exact wpAny_bind (wpAny_pure ⟨_, rfl, wpAny_pure h⟩)
    | exact wpAny_bind (wpAny_pure (wpAny_pure ⟨_, rfl, wpAny_pure h⟩))
    | exact wpAny_pure ⟨_, rfl, wpAny_pure h⟩
    | exact wpAny_pure (wpAny_pure ⟨_, rfl, wpAny_pure h⟩)
end
theorem sl_tupW {X : Cx} : SlR X (rSlTw X.K) := by
  intro pins s σ H x v vl vu lo hi sl Q I rx hs pl pu h
  obtain ⟨a, xs, rfl, hx, hw, q⟩ := h
  cases rx
  obtain ⟨its, r, ht, hz⟩ := I.tuple hx
  have hlen : its.toArray.size = xs.length := by rw [List.size_toArray]; exact r.length.symm
  refine ⟨"tuple", _, PyProof.Rows.slot_tuple_getitem.lookup, ht.typeIs, ?_⟩
  exact getItem_tuple_whole ht hs pl pu (by rw [hlen]; exact hw) ⟨.ref a, H, I, rfl, q⟩
def SlSem (T : Tab) (r : V → Option Int → Option Int → Hp → VK → Prop) : Prop := ∀ H0 B0 ms en σ H pend dx x lo hi d Q, SR T H0 B0 ms en σ H ((dx, x) :: pend) → dCut dx lo hi = .ok d →
  (∀ v H', SR T H0 B0 ms en σ H' ((d, v) :: (dx, x) :: pend) → Q v H') → r x lo hi H Q
theorem cut_reps {T : Tab} {B : Addr → Prop} {H : Hp} {ds : List D} {vs : List V} (r : Reps T B H ds vs) (lo hi : Option Int) : Reps T B H (cutD ds lo hi) (cutV vs lo hi) := by
  unfold cutD cutV
  rw [← r.length]
  exact (r.drop _).take _
theorem cut_whole {α : Type} (xs : List α) (lo hi : Option Int) (hw : HT.sIx xs.length 0 lo = 0 ∧ HT.sIx xs.length xs.length hi = xs.length) : cutD xs lo hi = xs := by
  unfold cutD
  rw [hw.1, hw.2]; simp
theorem sCut {T : Tab} : SlSem T (fun x lo hi H Q => rSlL T.K x lo hi H Q ∨ (rSlT T.K x lo hi H Q ∨ (rSlTw T.K x lo hi H Q ∨ rSlS x lo hi H Q))) := by
  intro H0 B0 ms en σ H pend dx x lo hi d Q s h q
  obtain ⟨B, c, e, p, r1⟩ := one s
  unfold dCut at h
  split at h
  · cases h
    obtain ⟨a1, vs1, rfl, _, h1, rs1⟩ := rep_lst.mp r1
    exact .inl ⟨_, _, rfl, SqL.of h1, fun z n => q _ _ (SRL.lst ⟨B, c, e, p, cut_reps rs1 lo hi⟩ n)⟩
  · cases h
    obtain ⟨a1, vs1, rfl, h1, rs1⟩ := rep_tup.mp r1
    by_cases hw : HT.sIx vs1.length 0 lo = 0 ∧ HT.sIx vs1.length vs1.length hi = vs1.length
    · refine .inr (.inr (.inl ⟨_, _, rfl, tupAt h1, hw, q _ H ⟨B, c, e, fun z hz => ?_⟩⟩))
      rcases List.mem_cons.mp hz with rfl | hz
      · rw [cut_whole _ lo hi (by rw [rs1.length]; exact hw)]; exact r1
      · exact p z hz
    · exact .inr (.inl ⟨_, _, rfl, tupAt h1, hw, fun z n => q _ _ (SRL.tup ⟨B, c, e, p, cut_reps rs1 lo hi⟩ n)⟩)
  · split at h
    · rename_i hl
      cases h
      exact .inr (.inr (.inr ⟨_, rep_str.mp r1, fits_line hl, q _ H (s.flat rfl)⟩))
    · cases h
  · cases h
theorem dCut_exc {x : D} {lo hi : Option Int} {c : String} {fs : List (Str × D)} : dCut x lo hi ≠ .exc c fs := by
  intro h
  unfold dCut at h
  repeat' split at h
  all_goals cases h
/-- a part of a slice -/
def OPost (T : Tab) (W : WX) (ms : List Nat) (H0 : Hp) (B0 : Addr → Prop) (en : En) (σ : L2.St) (pend : List (D × V)) (r : R (Option Int)) (Q : Option Int → Hp → Prop) : Prop := match r with
  | .ok o => ∀ H', SR T H0 B0 ms en σ H' pend → Q o H'
  | .exc c fs => ∀ cls dd H', SX T H0 B0 en σ H' c fs cls dd → W cls dd σ H'
  | .bad => False
def oF (T : Tab) (W : WX) (ms : List Nat) (f : OF) : TO := fun σ H Q => ∃ H0 B0 en pend, SR T H0 B0 ms en σ H pend ∧ OPost T W ms H0 B0 en σ pend (f en) Q
section
variable {X : Cx} {T : Tab} {W : WX} {ms : List Nat} {a b e : Expr} {pos p2 : Pos} {f g : EF} {k : Nat} {l h : OF} {lo hi : Option Expr}
theorem mO {e : Option Expr} {t t' : TO} (h : PO X e t) (m : ∀ σ H Q, t' σ H Q → t σ H Q) : PO X e t' := ⟨fun pins s σ H Q I q => h.run pins s σ H Q I (m _ _ _ q)⟩
theorem fo_none : PO X none (oF T W ms oNone) := mO po_none fun σ H Q ⟨H0, B0, en, pend, sr, post⟩ => post H sr
theorem fo_some (ha : PE X e (tF T W ms f)) : PO X (some e) (oF T W ms (oSome f)) := mO (po_some ha) fun σ H Q ⟨H0, B0, en, pend, sr, post⟩ => ⟨H0, B0, en, pend, sr, by
  unfold oSome at post
  cases q : f en with
  | exc c fs => rw [q] at post; exact post
  | bad => rw [q] at post; exact post.elim
  | ok d =>
    rw [q] at post
    intro v H' s
    cases d with
    | int i =>
      obtain ⟨B, c, e, p, r⟩ := one s
      exact ⟨i, rep_int.mp r, post H' s.tail⟩
    | _ => exact post.elim⟩
theorem fe_cut (ha : PE X a (tF T W ms f)) (hl : PO X lo (oF T W ms l)) (hh : PO X hi (oF T W ms h)) (hK : X.K = T.K := by rfl) : PE X (.Subscript a (.Slice lo hi none p2) pos) (tF T W ms (eCut f l h)) :=
  mE (pe_slice (sl_list.or (sl_tup.or (sl_tupW.or sl_str))) ha hl hh) fun σ H Q ⟨H0, B0, en, pend, sr, post⟩ => ⟨H0, B0, en, pend, sr, EPost.step post fun dx x H1 s1 p1 => by
    refine ⟨H0, B0, en, (dx, x) :: pend, s1, ?_⟩
    cases q1 : l en with
    | exc c fs => rw [q1] at p1; exact p1
    | bad => rw [q1] at p1; exact p1.elim
    | ok o1 =>
      rw [q1] at p1
      intro H2 s2
      refine ⟨H0, B0, en, (dx, x) :: pend, s2, ?_⟩
      rw [R.bind_ok] at p1
      cases q2 : h en with
      | exc c fs => rw [q2] at p1; exact p1
      | bad => rw [q2] at p1; exact p1.elim
      | ok o2 =>
        rw [q2, R.bind_ok] at p1
        intro H3 s3
        cases q3 : dCut dx o1 o2 with
        | ok d => rw [q3] at p1; rw [hK]; exact sCut H0 B0 ms en σ H3 pend dx x o1 o2 d Q s3 q3 p1
        | exc c fs => exact (dCut_exc q3).elim
        | bad => rw [q3] at p1; exact p1.elim⟩
theorem fe_ix (ha : PE X a (tF T W ms f)) (hb : PE X b (tF T W ms g)) (hK : X.K = T.K := by rfl) (hp : PlainIx b := by intro _ _; rfl) : PE X (.Subscript a b pos) (tF T W ms (eB2 dIx f g)) :=
  fe_sub ix_seq (by rw [hK]; exact sIx) dIx_exc ha hb hp
/-! xs[::-1] -/
def dRev : D → R D
  | .lst ds => .ok (.lst ds.reverse)
  | _ => .bad
theorem fe_rev {k : Nat} {p1 p2 p3 : Pos} (ha : PE X a (tF T W ms f)) (hK : X.K = T.K := by rfl) : PE X (.Subscript a (.Slice none none (some (.UnaryOp .USub (.Constant (.int 1) k p1) p2)) p3) pos) (tF T W ms (eU dRev f)) :=
  mE (pe_revL ha) fun σ H Q w => un_step (T := T) (r := fun x H1 Q => ∃ a xs, x = .ref a ∧ SqL X.K H1 a xs ∧ ∀ p, H1 p = none → Q (.ref p) (upd H1 p (.lst xs.reverse))) (fun H0 B0 ms en σ H pend dx x d Q s h q => by
    unfold dRev at h
    split at h
    · cases h
      obtain ⟨B, c, e, p, r1⟩ := one s
      obtain ⟨a1, vs1, rfl, _, h1, rs1⟩ := rep_lst.mp r1
      exact ⟨_, _, rfl, SqL.of h1, fun z n => q _ _ (SRL.lst ⟨B, c, e, p, rs1.reverse⟩ n)⟩
    · cases h) (fun x c fs h => by unfold dRev at h; split at h <;> cases h) w
end

/-! ### comparisons -/
section
variable {X : Cx} {T : Tab} {W : WX} {ms : List Nat} {a b c e : Expr} {pos : Pos} {f g : EF} {k : Nat}
theorem fe_lt (ha : PE X a (tF T W ms f)) (hb : PE X b (tF T W ms g)) : PE X (.Compare a [.Lt] [b] pos) (tF T W ms (eB2 dLt f g)) := fe_cmp op_lt (sI fun _ _ => rfl) (dI_exc _) ha hb (nomark _)
theorem fe_le (ha : PE X a (tF T W ms f)) (hb : PE X b (tF T W ms g)) : PE X (.Compare a [.LtE] [b] pos) (tF T W ms (eB2 dLe f g)) := fe_cmp op_le (sI fun _ _ => rfl) (dI_exc _) ha hb (nomark _)
theorem fe_gt (ha : PE X a (tF T W ms f)) (hb : PE X b (tF T W ms g)) : PE X (.Compare a [.Gt] [b] pos) (tF T W ms (eB2 dGt f g)) := fe_cmp op_gt (sI fun _ _ => rfl) (dI_exc _) ha hb (nomark _)
theorem fe_ge (ha : PE X a (tF T W ms f)) (hb : PE X b (tF T W ms g)) : PE X (.Compare a [.GtE] [b] pos) (tF T W ms (eB2 dGe f g)) := fe_cmp op_ge (sI fun _ _ => rfl) (dI_exc _) ha hb (nomark _)
theorem ft_lt (ha : PE X a (tF T W ms f)) (hb : PE X b (tF T W ms g)) : PT X (.Compare a [.Lt] [b] pos) (cF T W ms (cBl (eB2 dLt f g))) := ft_cmp op_lt (sI fun _ _ => rfl) (dI_exc _) ha hb (nomark _)
theorem ft_le (ha : PE X a (tF T W ms f)) (hb : PE X b (tF T W ms g)) : PT X (.Compare a [.LtE] [b] pos) (cF T W ms (cBl (eB2 dLe f g))) := ft_cmp op_le (sI fun _ _ => rfl) (dI_exc _) ha hb (nomark _)
theorem ft_gt (ha : PE X a (tF T W ms f)) (hb : PE X b (tF T W ms g)) : PT X (.Compare a [.Gt] [b] pos) (cF T W ms (cBl (eB2 dGt f g))) := ft_cmp op_gt (sI fun _ _ => rfl) (dI_exc _) ha hb (nomark _)
theorem ft_ge (ha : PE X a (tF T W ms f)) (hb : PE X b (tF T W ms g)) : PT X (.Compare a [.GtE] [b] pos) (cF T W ms (cBl (eB2 dGe f g))) := ft_cmp op_ge (sI fun _ _ => rfl) (dI_exc _) ha hb (nomark _)
/-! a < b < c and its like, of ints -/
theorem ft_lele {h : EF} (ha : PE X a (tF T W ms f)) (hb : PE X b (tF T W ms g)) (hc : PE X c (tF T W ms h)) (hm : lastMarks [.LtE, .LtE] [b, c] = false := by with_unfolding_all rfl) : PT X (.Compare a [.LtE, .LtE] [b, c] pos) (cF T W ms (cBl (eChain dLe dLe f g h))) :=
  ft_chain op_le (sI fun _ _ => rfl) (dI_exc _) op_le (sI fun _ _ => rfl) (dI_exc _) ha hb hc hm
theorem ft_lelt {h : EF} (ha : PE X a (tF T W ms f)) (hb : PE X b (tF T W ms g)) (hc : PE X c (tF T W ms h)) (hm : lastMarks [.LtE, .Lt] [b, c] = false := by with_unfolding_all rfl) : PT X (.Compare a [.LtE, .Lt] [b, c] pos) (cF T W ms (cBl (eChain dLe dLt f g h))) :=
  ft_chain op_le (sI fun _ _ => rfl) (dI_exc _) op_lt (sI fun _ _ => rfl) (dI_exc _) ha hb hc hm
theorem fe_lelt {h : EF} (ha : PE X a (tF T W ms f)) (hb : PE X b (tF T W ms g)) (hc : PE X c (tF T W ms h)) (hm : lastMarks [.LtE, .Lt] [b, c] = false := by with_unfolding_all rfl) : PE X (.Compare a [.LtE, .Lt] [b, c] pos) (tF T W ms (eChain dLe dLt f g h)) :=
  fe_chain op_le (sI fun _ _ => rfl) (dI_exc _) op_lt (sI fun _ _ => rfl) (dI_exc _) ha hb hc hm
/-! is None -/
def dIsN : D → D → R D
  | .non, .non => .ok (.bl true)
  | .bl _, .non | .int _, .non | .str _, .non | .lst _, .non | .tup _, .non => .ok (.bl false)
  | _, _ => .bad
def dNotN : D → D → R D
  | .non, .non => .ok (.bl false)
  | .bl _, .non | .int _, .non | .str _, .non | .lst _, .non | .tup _, .non => .ok (.bl true)
  | _, _ => .bad
theorem dIsN_exc : NoExc2 dIsN := by intro x y c fs h; unfold dIsN at h; repeat' split at h; all_goals cases h
theorem dNotN_exc : NoExc2 dNotN := by intro x y c fs h; unfold dNotN at h; repeat' split at h; all_goals cases h
theorem isN_v {B : Addr → Prop} {H : Hp} {x : D} {v : V} {d : D} (r : Rep T B H x v) (h : dIsN x .non = .ok d) : d = .bl (decide (v = .non)) := by
  cases x <;> simp only [dIsN] at h <;> cases h <;> simp only [Rep] at r
  · subst r; rfl
  · subst r; rfl
  · subst r; rfl
  · subst r; rfl
  · obtain ⟨a, vs, rfl, _⟩ := r; rfl
  · obtain ⟨a, vs, rfl, _⟩ := r; rfl
theorem dIsN_y {x y d : D} (h : dIsN x y = .ok d) : y = .non := by
  cases x <;> cases y <;> simp [dIsN] at h <;> rfl
theorem dNotN_is {x y d : D} (h : dNotN x y = .ok d) : ∃ b, dIsN x y = .ok (.bl b) ∧ d = .bl (!b) := by
  cases x <;> cases y <;> simp [dNotN] at h <;> subst h <;> first | exact ⟨true, rfl, rfl⟩ | exact ⟨false, rfl, rfl⟩
theorem sIsN : BinSem T (fun x y H Q => y = .non ∧ Q (.bl (decide (x = .non))) H) dIsN := by
  intro H0 B0 ms en σ H pend dx x dy y d Q s h q
  obtain ⟨B, c, e, p, r1, r2⟩ := two s
  have hy := dIsN_y h
  subst hy
  have hd := isN_v r1 h
  subst hd
  exact ⟨rep_non.mp r2, q _ H (s.flat rfl)⟩
theorem sNotN : BinSem T (fun x y H Q => y = .non ∧ Q (.bl (!decide (x = .non))) H) dNotN := by
  intro H0 B0 ms en σ H pend dx x dy y d Q s h q
  obtain ⟨B, c, e, p, r1, r2⟩ := two s
  obtain ⟨b, h1, rfl⟩ := dNotN_is h
  have hy := dIsN_y h1
  subst hy
  have hd := isN_v r1 h1
  cases hd
  exact ⟨rep_non.mp r2, q _ H (s.flat rfl)⟩
theorem fe_isN (ha : PE X a (tF T W ms f)) (hb : PE X b (tF T W ms g)) : PE X (.Compare a [.Is] [b] pos) (tF T W ms (eB2 dIsN f g)) := fe_cmp op_isN sIsN dIsN_exc ha hb (nomark _)
theorem ft_isN (ha : PE X a (tF T W ms f)) (hb : PE X b (tF T W ms g)) : PT X (.Compare a [.Is] [b] pos) (cF T W ms (cBl (eB2 dIsN f g))) := ft_cmp op_isN sIsN dIsN_exc ha hb (nomark _)
theorem fe_notN (ha : PE X a (tF T W ms f)) (hb : PE X b (tF T W ms g)) : PE X (.Compare a [.IsNot] [b] pos) (tF T W ms (eB2 dNotN f g)) := fe_cmp op_notN sNotN dNotN_exc ha hb (nomark _)
theorem ft_notN (ha : PE X a (tF T W ms f)) (hb : PE X b (tF T W ms g)) : PT X (.Compare a [.IsNot] [b] pos) (cF T W ms (cBl (eB2 dNotN f g))) := ft_cmp op_notN sNotN dNotN_exc ha hb (nomark _)
/-! is True, is False -/
def dIsB : D → D → R D
  | .bl a, .bl b => .ok (.bl (decide (a = b)))
  | .non, .bl _ | .int _, .bl _ | .str _, .bl _ | .lst _, .bl _ | .tup _, .bl _ => .ok (.bl false)
  | _, _ => .bad
def dNotB : D → D → R D
  | .bl a, .bl b => .ok (.bl (!decide (a = b)))
  | .non, .bl _ | .int _, .bl _ | .str _, .bl _ | .lst _, .bl _ | .tup _, .bl _ => .ok (.bl true)
  | _, _ => .bad
theorem dIsB_exc : NoExc2 dIsB := by intro x y c fs h; unfold dIsB at h; repeat' split at h; all_goals cases h
theorem dNotB_exc : NoExc2 dNotB := by intro x y c fs h; unfold dNotB at h; repeat' split at h; all_goals cases h
def rIsAny : R2 := fun x y H Q => ∃ b, y = .bl b ∧ x ≠ .bl b ∧ (∀ k, x ≠ .byt k) ∧ (∀ k, x ≠ .flt k) ∧ Q (.bl false) H
def rNotAny : R2 := fun x y H Q => ∃ b, y = .bl b ∧ x ≠ .bl b ∧ (∀ k, x ≠ .byt k) ∧ (∀ k, x ≠ .flt k) ∧ Q (.bl true) H
theorem op_isAny : OpR X (compareOp .Is) rIsAny := by
  intro pins s σ H x y v u Q I rx ry h
  obtain ⟨b, rfl, hne, hb1, hb2, q⟩ := h
  cases (show u = Value.bool b from ry)
  have fin : EP X pins σ Q (.bool false) s := ⟨.bl false, H, I, rfl, q⟩
  cases x with
  | non => cases rx; exact wpAny_is_other rfl (fun z => by cases z) fin
  | bl c => cases rx; exact wpAny_is_other rfl (fun z => hne (by cases z; rfl)) fin
  | int i => obtain ⟨t, rfl⟩ := rx; exact wpAny_is_other rfl (fun z => by cases z) fin
  | str i => obtain ⟨t, rfl⟩ := rx; exact wpAny_is_other rfl (fun z => by cases z) fin
  | byt i => exact absurd rfl (hb1 i)
  | flt i => exact absurd rfl (hb2 i)
  | ref i => cases rx; exact wpAny_is_other rfl (fun z => by cases z) fin
  | ty i => cases rx; exact wpAny_is_other rfl (fun z => by cases z) fin
theorem op_notAny : OpR X (compareOp .IsNot) rNotAny := by
  intro pins s σ H x y v u Q I rx ry h
  obtain ⟨b, rfl, hne, hb1, hb2, q⟩ := h
  cases (show u = Value.bool b from ry)
  have fin : EP X pins σ Q (.bool true) s := ⟨.bl true, H, I, rfl, q⟩
  cases x with
  | non => cases rx; exact wpAny_isNot_other rfl (fun z => by cases z) fin
  | bl c => cases rx; exact wpAny_isNot_other rfl (fun z => hne (by cases z; rfl)) fin
  | int i => obtain ⟨t, rfl⟩ := rx; exact wpAny_isNot_other rfl (fun z => by cases z) fin
  | str i => obtain ⟨t, rfl⟩ := rx; exact wpAny_isNot_other rfl (fun z => by cases z) fin
  | byt i => exact absurd rfl (hb1 i)
  | flt i => exact absurd rfl (hb2 i)
  | ref i => cases rx; exact wpAny_isNot_other rfl (fun z => by cases z) fin
  | ty i => cases rx; exact wpAny_isNot_other rfl (fun z => by cases z) fin
theorem sIsB : BinSem T (fun x y H Q => rIsB x y H Q ∨ rIsAny x y H Q) dIsB := by
  intro H0 B0 ms en σ H pend dx x dy y d Q s h q
  obtain ⟨B, c, e, p, r1, r2⟩ := two s
  unfold dIsB at h
  split at h <;> cases h
  · exact .inl ⟨_, _, rep_bl.mp r1, rep_bl.mp r2, q _ H (s.flat rfl)⟩
  · exact .inr ⟨_, rep_bl.mp r2, by rw [rep_non.mp r1]; simp, by rw [rep_non.mp r1]; simp, by rw [rep_non.mp r1]; simp, q _ H (s.flat rfl)⟩
  · exact .inr ⟨_, rep_bl.mp r2, by rw [rep_int.mp r1]; simp, by rw [rep_int.mp r1]; simp, by rw [rep_int.mp r1]; simp, q _ H (s.flat rfl)⟩
  · exact .inr ⟨_, rep_bl.mp r2, by rw [rep_str.mp r1]; simp, by rw [rep_str.mp r1]; simp, by rw [rep_str.mp r1]; simp, q _ H (s.flat rfl)⟩
  · obtain ⟨a, vs, rfl, _⟩ := rep_lst.mp r1
    exact .inr ⟨_, rep_bl.mp r2, by simp, by simp, by simp, q _ H (s.flat rfl)⟩
  · obtain ⟨a, vs, rfl, _⟩ := rep_tup.mp r1
    exact .inr ⟨_, rep_bl.mp r2, by simp, by simp, by simp, q _ H (s.flat rfl)⟩
theorem sNotB : BinSem T (fun x y H Q => rNotB x y H Q ∨ rNotAny x y H Q) dNotB := by
  intro H0 B0 ms en σ H pend dx x dy y d Q s h q
  obtain ⟨B, c, e, p, r1, r2⟩ := two s
  unfold dNotB at h
  split at h <;> cases h
  · exact .inl ⟨_, _, rep_bl.mp r1, rep_bl.mp r2, q _ H (s.flat rfl)⟩
  · exact .inr ⟨_, rep_bl.mp r2, by rw [rep_non.mp r1]; simp, by rw [rep_non.mp r1]; simp, by rw [rep_non.mp r1]; simp, q _ H (s.flat rfl)⟩
  · exact .inr ⟨_, rep_bl.mp r2, by rw [rep_int.mp r1]; simp, by rw [rep_int.mp r1]; simp, by rw [rep_int.mp r1]; simp, q _ H (s.flat rfl)⟩
  · exact .inr ⟨_, rep_bl.mp r2, by rw [rep_str.mp r1]; simp, by rw [rep_str.mp r1]; simp, by rw [rep_str.mp r1]; simp, q _ H (s.flat rfl)⟩
  · obtain ⟨a, vs, rfl, _⟩ := rep_lst.mp r1
    exact .inr ⟨_, rep_bl.mp r2, by simp, by simp, by simp, q _ H (s.flat rfl)⟩
  · obtain ⟨a, vs, rfl, _⟩ := rep_tup.mp r1
    exact .inr ⟨_, rep_bl.mp r2, by simp, by simp, by simp, q _ H (s.flat rfl)⟩
theorem fe_isB (ha : PE X a (tF T W ms f)) (hb : PE X b (tF T W ms g)) : PE X (.Compare a [.Is] [b] pos) (tF T W ms (eB2 dIsB f g)) := fe_cmp (op_isBl.or op_isAny) sIsB dIsB_exc ha hb (nomark _)
theorem ft_isB (ha : PE X a (tF T W ms f)) (hb : PE X b (tF T W ms g)) : PT X (.Compare a [.Is] [b] pos) (cF T W ms (cBl (eB2 dIsB f g))) := ft_cmp (op_isBl.or op_isAny) sIsB dIsB_exc ha hb (nomark _)
theorem ft_notB (ha : PE X a (tF T W ms f)) (hb : PE X b (tF T W ms g)) : PT X (.Compare a [.IsNot] [b] pos) (cF T W ms (cBl (eB2 dNotB f g))) := ft_cmp (op_notBl.or op_notAny) sNotB dNotB_exc ha hb (nomark _)
end
end Fd

set_option Elab.async false
set_option linter.all false
set_option maxRecDepth 100000
/-! Statements. -/
namespace Fd
open PySem PySem.Spec PyProof.Rows L2

inductive RF where
  | nx (e : En) | ret (d : D) | brk (e : En) | cnt (e : En) | exc (c : String) (fs : List (Str × D)) (e : En) | bad
abbrev SF := En → RF
def SPost (T : Tab) (W : WX) (mo mb : List Nat) (H0 : Hp) (B0 : Addr → Prop) (pend : List (D × V)) (r : RF) (Dn : Ends) : Prop := match r with
  | .nx en => ∀ σ H, SR T H0 B0 mo en σ H pend → Dn.nx σ H
  | .ret d => ∀ v H B, Core H0 B0 B H → Rep T B H d v → Dn.rt v H
  | .brk en => ∀ σ H, SR T H0 B0 mb en σ H pend → Dn.bk σ H
  | .cnt en => ∀ σ H, SR T H0 B0 mb en σ H pend → Dn.ct σ H
  | .exc c fs en => ∀ cls dd σ H, SX T H0 B0 en σ H c fs cls dd → W cls dd σ H
  | .bad => False
def sF (T : Tab) (W : WX) (ms mo mb : List Nat) (f : SF) : TS := fun Dn σ H => ∃ H0 B0 en pend, SR T H0 B0 ms en σ H pend ∧ SPost T W mo mb H0 B0 pend (f en) Dn
theorem mS {X : Cx} {e : Stmt} {t t' : TS} (h : PS X e t) (m : ∀ D σ H, t' D σ H → t D σ H) : PS X e t' := ⟨fun pins s σ H D I q => h.run pins s σ H D I (m _ _ _ q)⟩
theorem mSs {X : Cx} {e : List Stmt} {t t' : TS} (h : PSs X e t) (m : ∀ D σ H, t' D σ H → t D σ H) : PSs X e t' := ⟨fun pins s σ H D I q => h.run pins s σ H D I (m _ _ _ q)⟩
theorem mG {X : Cx} {e : Expr} {t t' : TG} (h : PG X e t) (m : ∀ v σ H Q, t' v σ H Q → t v σ H Q) : PG X e t' := ⟨fun pins s σ H v u Q I r q => h.run pins s σ H v u Q I r (m _ _ _ _ q)⟩
theorem mGs {X : Cx} {e : List Expr} {t t' : TGs} (h : PGs X e t) (m : ∀ v σ H Q, t' v σ H Q → t v σ H Q) : PGs X e t' := ⟨fun pins s σ H v u Q I r q => h.run pins s σ H v u Q I r (m _ _ _ _ q)⟩
theorem mI {X : Cx} {tg e : Expr} {t t' : TI} (h : PI X tg e t) (m : ∀ σ H Q, t' σ H Q → t σ H Q) : PI X tg e t' := ⟨fun pins s σ H Q I q => h.run pins s σ H Q I (m _ _ _ q)⟩

/-! ### the meanings -/
def lift (r : R D) (en : En) (k : D → RF) : RF := match r with
  | .ok d => k d
  | .exc c fs => .exc c fs en
  | .bad => .bad
def liftB (r : R Bool) (en : En) (k : Bool → RF) : RF := match r with
  | .ok d => k d
  | .exc c fs => .exc c fs en
  | .bad => .bad
def liftL (r : R (List D)) (en : En) (k : List D → RF) : RF := match r with
  | .ok d => k d
  | .exc c fs => .exc c fs en
  | .bad => .bad
@[simp] theorem lift_ok (d : D) (en : En) (k : D → RF) : lift (.ok d) en k = k d := rfl
@[simp] theorem liftB_ok (d : Bool) (en : En) (k : Bool → RF) : liftB (.ok d) en k = k d := rfl
@[simp] theorem liftL_ok (d : List D) (en : En) (k : List D → RF) : liftL (.ok d) en k = k d := rfl
def sNx : SF := fun en => .nx en
def sBad : SF := fun _ => .bad
def sBrk : SF := fun en => .brk en
def sCnt : SF := fun en => .cnt en
def andThen (r : RF) (g : SF) : RF := match r with
  | .nx en => g en
  | r => r
def sSeq (f g : SF) : SF := fun en => andThen (f en) g
def sSet (i : Nat) (f : EF) : SF := fun en => lift (f en) en fun d => .nx (en.set i (some d))
def sRet (f : EF) : SF := fun en => lift (f en) en fun d => .ret d
def sRetN : SF := fun _ => .ret .non
def sDrop (f : EF) : SF := fun en => lift (f en) en fun _ => .nx en
def sIf (c : CF) (f g : SF) : SF := fun en => liftB (c en) en fun b => if b = true then f en else g en
def rm (i : Nat) (ms : List Nat) : List Nat := ms.filter fun j => j != i
theorem mem_rm {i j : Nat} {ms : List Nat} : j ∈ rm i ms ↔ j ∈ ms ∧ j ≠ i := by simp [rm]
abbrev TGF := D → En → Option En
def tgName (i : Nat) : TGF := fun d en => some (en.set i (some d))
def tgNil : List D → En → Option En := fun ds en => match ds with
  | [] => some en
  | _ => none
def tgCons (t : TGF) (u : List D → En → Option En) : List D → En → Option En := fun ds en => match ds with
  | d :: ds => match t d en with
    | some en' => u ds en'
    | none => none
  | [] => none
def tgTup (u : List D → En → Option En) : TGF := fun d en => match d with
  | .tup ds => u ds en
  | _ => none
def sAsg (t : TGF) (f : EF) : SF := fun en => lift (f en) en fun d => match t d en with
  | some en' => .nx en'
  | none => .bad
abbrev IF := En → R (List D)
def forL (t : TGF) (f : SF) : List D → En → RF
  | [], en => .nx en
  | d :: ds, en => match t d en with
    | none => .bad
    | some en1 => match f en1 with
      | .nx e => forL t f ds e
      | .cnt e => forL t f ds e
      | .brk e => .nx e
      | .ret d => .ret d
      | .exc c fs e => .exc c fs e
      | .bad => .bad
def sFor (it : IF) (t : TGF) (f : SF) : SF := fun en => liftL (it en) en fun ds => forL t f ds en
def whileN (c : CF) (f : SF) : Nat → En → Option RF
  | 0, _ => none
  | n + 1, en => match c en with
    | .ok true => match f en with
      | .nx e => whileN c f n e
      | .cnt e => whileN c f n e
      | .brk e => some (.nx e)
      | .ret d => some (.ret d)
      | .exc c fs e => some (.exc c fs e)
      | .bad => some .bad
    | .ok false => some (.nx en)
    | .exc c fs => some (.exc c fs en)
    | .bad => some .bad
open Classical in
noncomputable def sWhile (c : CF) (f : SF) : SF := fun en => if h : ∃ n r, whileN c f n en = some r then (choose (choose_spec h)) else .bad

section
variable {X : Cx} {T : Tab} {W : WX} {ms mo mb : List Nat} {H0 H : Hp} {B0 : Addr → Prop} {en : En} {σ : L2.St} {pend : List (D × V)}
variable {e : Expr} {st : Stmt} {rest : List Stmt} {pos : Pos} {f : EF} {c : CF} {u v : SF} {Dn : Ends}

theorem SPost.lift {r : R D} {k : D → RF} {Q : VK} (h : SPost T W mo mb H0 B0 pend (Fd.lift r en k) Dn) (c : ∀ d v H', SR T H0 B0 ms en σ H' ((d, v) :: pend) → SPost T W mo mb H0 B0 pend (k d) Dn → Q v H') : EPost T W ms H0 B0 en σ pend r Q := by
  cases r with
  | ok d => exact fun v H' s => c d v H' s h
  | exc c fs => exact fun cls dd H' x => h cls dd σ H' x
  | bad => exact h
theorem SPost.liftB {r : R Bool} {k : Bool → RF} {Q : Bool → Hp → Prop} (h : SPost T W mo mb H0 B0 pend (Fd.liftB r en k) Dn) (c : ∀ d H', SR T H0 B0 ms en σ H' pend → SPost T W mo mb H0 B0 pend (k d) Dn → Q d H') : BPost T W ms H0 B0 en σ pend r Q := by
  cases r with
  | ok d => exact fun H' s => c d H' s h
  | exc c fs => exact fun cls dd H' x => h cls dd σ H' x
  | bad => exact h
theorem fs_w {ms' mo' mb' : List Nat} (h : PSs X rest (sF T W ms mo mb u)) (h1 : ∀ i ∈ ms, i ∈ ms' := by decide) (h2 : ∀ i ∈ mo', i ∈ mo := by decide) (h3 : ∀ i ∈ mb', i ∈ mb := by decide) : PSs X rest (sF T W ms' mo' mb' u) :=
  mSs h fun Dn σ H ⟨H0, B0, en, pend, sr, post⟩ => ⟨H0, B0, en, pend, sr.weaken h1, by
    cases q : u en with
    | nx e => rw [q] at post; exact fun σ H s => post σ H (s.weaken h2)
    | brk e => rw [q] at post; exact fun σ H s => post σ H (s.weaken h3)
    | cnt e => rw [q] at post; exact fun σ H s => post σ H (s.weaken h3)
    | _ => rw [q] at post; exact post⟩
theorem fs_w1 {ms' mo' mb' : List Nat} (h : PS X st (sF T W ms mo mb u)) (h1 : ∀ i ∈ ms, i ∈ ms' := by decide) (h2 : ∀ i ∈ mo', i ∈ mo := by decide) (h3 : ∀ i ∈ mb', i ∈ mb := by decide) : PS X st (sF T W ms' mo' mb' u) :=
  mS h fun Dn σ H ⟨H0, B0, en, pend, sr, post⟩ => ⟨H0, B0, en, pend, sr.weaken h1, by
    cases q : u en with
    | nx e => rw [q] at post; exact fun σ H s => post σ H (s.weaken h2)
    | brk e => rw [q] at post; exact fun σ H s => post σ H (s.weaken h3)
    | cnt e => rw [q] at post; exact fun σ H s => post σ H (s.weaken h3)
    | _ => rw [q] at post; exact post⟩
theorem fs_nil : PSs X [] (sF T W ms ms mb sNx) := mSs pss_nil fun Dn σ H ⟨H0, B0, en, pend, sr, post⟩ => post σ H sr
theorem fs_cons {m1 : List Nat} (h1 : PS X st (sF T W ms m1 mb u)) (h2 : PSs X rest (sF T W m1 mo mb v)) : PSs X (st :: rest) (sF T W ms mo mb (sSeq u v)) :=
  mSs (pss_cons h1 h2) fun Dn σ H ⟨H0, B0, en, pend, sr, post⟩ => ⟨H0, B0, en, pend, sr, by
    unfold sSeq at post
    cases q : u en with
    | nx e => rw [q] at post; exact fun σ H s => ⟨H0, B0, e, pend, s, post⟩
    | _ => rw [q] at post; exact post⟩
theorem fs_one (h1 : PS X st (sF T W ms mo mb u)) : PSs X [st] (sF T W ms mo mb u) := pss_one h1
theorem fs_never : PS X st (sF T W ms mo mb sBad) := mS ps_never fun Dn σ H ⟨H0, B0, en, pend, sr, post⟩ => post
theorem fs_pass : PS X (.Pass pos) (sF T W ms ms mb sNx) := mS ps_pass fun Dn σ H ⟨H0, B0, en, pend, sr, post⟩ => post σ H sr
theorem fs_break : PS X (.Break pos) (sF T W ms mo ms sBrk) := mS ps_break fun Dn σ H ⟨H0, B0, en, pend, sr, post⟩ => post σ H sr
theorem fs_continue : PS X (.Continue pos) (sF T W ms mo ms sCnt) := mS ps_continue fun Dn σ H ⟨H0, B0, en, pend, sr, post⟩ => post σ H sr
theorem fs_ret (he : PE X e (tF T W ms f)) : PS X (.Return (some e) pos) (sF T W ms mo mb (sRet f)) :=
  mS (ps_ret he) fun Dn σ H ⟨H0, B0, en, pend, sr, post⟩ => ⟨H0, B0, en, pend, sr, SPost.lift post fun d v H' s p => let ⟨B, c, e, q⟩ := s; p v H' B c (q (d, v) List.mem_cons_self)⟩
theorem fs_retN : PS X (.Return none pos) (sF T W ms mo mb sRetN) := mS ps_retN fun Dn σ H ⟨H0, B0, en, pend, sr, post⟩ => let ⟨B, c, e, q⟩ := sr; post .non H B c (rep_non.mpr rfl)
theorem fs_expr (he : PE X e (tF T W ms f)) (hs : swapsWith e none pos.line X.env = pure false := by rfl) : PS X (.Expr e pos) (sF T W ms ms mb (sDrop f)) :=
  mS (ps_expr he hs) fun Dn σ H ⟨H0, B0, en, pend, sr, post⟩ => ⟨H0, B0, en, pend, sr, SPost.lift post fun d v H' s p => p σ H' s.tail⟩
theorem fs_if {k : Expr} {a b : List Stmt} (hc : PT X k (cF T W ms c)) (ha : PSs X a (sF T W ms mo mb u)) (hb : PSs X b (sF T W ms mo mb v)) : PS X (.If k a b pos) (sF T W ms mo mb (sIf c u v)) :=
  mS (ps_if hc ha hb) fun Dn σ H ⟨H0, B0, en, pend, sr, post⟩ => ⟨H0, B0, en, pend, sr, SPost.liftB post fun k H' s p => by
    cases k with
    | true => rw [if_pos rfl] at p ⊢; exact ⟨H0, B0, en, pend, s, p⟩
    | false => rw [if_neg (by decide)] at p ⊢; exact ⟨H0, B0, en, pend, s, p⟩⟩

/-! ### a name is given a value -/
theorem SR.put {i : Nat} {d : D} {v : V} (s : SR T H0 B0 ms en σ H ((d, v) :: pend)) : SR T H0 B0 (rm i ms) (en.set i (some d)) (σ.set i (some v)) H pend := by
  obtain ⟨B, c, e, p⟩ := s
  have rd := p (d, v) List.mem_cons_self
  refine ⟨B, c, ⟨by simpa using e.len, fun j dj h1 h2 => ?_, fun j dj h1 h2 => ?_, fun j l dj dl h1 h2 h3 h4 h5 => ?_⟩, fun q hq => p q (List.mem_cons_of_mem _ hq)⟩
  · by_cases hj : i = j
    · subst hj
      have hl : i < en.length := by have := (List.getElem?_eq_some_iff.mp h1).1; simpa using this
      rw [List.getElem?_set_self hl] at h1
      cases h1
      exact ⟨v, by rw [List.getElem?_set_self (by rw [← e.len]; exact hl)], rd⟩
    · rw [List.getElem?_set_ne hj] at h1 ⊢
      exact e.rep j dj h1 fun z => h2 (mem_rm.mpr ⟨z, fun q => hj q.symm⟩)
  · have hj : i ≠ j := fun z => (mem_rm.mp h2).2 z.symm
    rw [List.getElem?_set_ne hj] at h1 ⊢
    exact e.own j dj h1 (mem_rm.mp h2).1
  · have hj : i ≠ j := fun z => (mem_rm.mp h3).2 z.symm
    have hl : i ≠ l := fun z => (mem_rm.mp h4).2 z.symm
    rw [List.getElem?_set_ne hj] at h1 ⊢
    rw [List.getElem?_set_ne hl] at h2 ⊢
    exact e.apart j l dj dl h1 h2 (mem_rm.mp h3).1 (mem_rm.mp h4).1 h5
theorem fs_set {i : Nat} {x : Str} {pos' : Pos} (hN : X.N.Nodup) (he : PE X e (tF T W ms f)) (hi : X.N[i]? = some x := by rfl) (hx : Loc X.env.scope x := by first | exact Or.inl rfl | exact Or.inr rfl) (hs : swapsWith e (some (.Name x pos')) pos.line X.env = pure false := by rfl)
    (hf : X.fn x = true ∨ X.env.scope.names.lookup x = some .local := by first | exact .inl rfl | exact .inr rfl | assumption) : PS X (.Assign [.Name x pos'] e pos) (sF T W ms (rm i ms) mb (sSet i f)) :=
  mS (ps_set hN hi hx he hs hf) fun Dn σ H ⟨H0, B0, en, pend, sr, post⟩ => ⟨H0, B0, en, pend, sr, SPost.lift post fun d v H' s p => p _ H' s.put⟩

/-! ### new things, owned by a name -/
def SRO (T : Tab) (H0 : Hp) (B0 : Addr → Prop) (ms : List Nat) (en : En) (σ : L2.St) (H : Hp) (d : D) (v : V) (pend : List (D × V)) : Prop :=
  ∃ B, Core H0 B0 B H ∧ EnOk T H0 B ms en σ H ∧ (∀ p ∈ pend, Rep T B H p.1 p.2) ∧ Own T H0 B H d v ∧ ∀ j dj, j ∈ ms → en[j]? = some (some dj) → σ[j]? ≠ some (some v)
def NPost (T : Tab) (W : WX) (ms : List Nat) (H0 : Hp) (B0 : Addr → Prop) (en : En) (σ : L2.St) (pend : List (D × V)) (r : R D) (Q : VK) : Prop := match r with
  | .ok d => ∀ v H', SRO T H0 B0 ms en σ H' d v pend → Q v H'
  | .exc c fs => ∀ cls dd H', SX T H0 B0 en σ H' c fs cls dd → W cls dd σ H'
  | .bad => False
def nF (T : Tab) (W : WX) (ms : List Nat) (f : En → R D) : TE := fun σ H Q => ∃ H0 B0 en pend, SR T H0 B0 ms en σ H pend ∧ NPost T W ms H0 B0 en σ pend (f en) Q
theorem SPost.liftN {r : R D} {k : D → RF} {Q : VK} (h : SPost T W mo mb H0 B0 pend (Fd.lift r en k) Dn) (c : ∀ d v H', SRO T H0 B0 ms en σ H' d v pend → SPost T W mo mb H0 B0 pend (k d) Dn → Q v H') : NPost T W ms H0 B0 en σ pend r Q := by
  cases r with
  | ok d => exact fun v H' s => c d v H' s h
  | exc c fs => exact fun cls dd H' x => h cls dd σ H' x
  | bad => exact h
theorem SRO.put {i : Nat} {d : D} {v : V} (s : SRO T H0 B0 ms en σ H d v pend) : SR T H0 B0 (i :: rm i ms) (en.set i (some d)) (σ.set i (some v)) H pend := by
  obtain ⟨B, c, e, p, own, ap⟩ := s
  refine ⟨B, c, ⟨by simpa using e.len, fun j dj h1 h2 => ?_, fun j dj h1 h2 => ?_, fun j l dj dl h1 h2 h3 h4 h5 => ?_⟩, p⟩
  · have hj : i ≠ j := fun z => h2 (z ▸ List.mem_cons_self)
    rw [List.getElem?_set_ne hj] at h1 ⊢
    exact e.rep j dj h1 fun z => h2 (List.mem_cons_of_mem _ (mem_rm.mpr ⟨z, fun q => hj q.symm⟩))
  · by_cases hj : i = j
    · subst hj
      have hl : i < en.length := by have := (List.getElem?_eq_some_iff.mp h1).1; simpa using this
      rw [List.getElem?_set_self hl] at h1
      cases h1
      exact ⟨v, by rw [List.getElem?_set_self (by rw [← e.len]; exact hl)], own⟩
    · rw [List.getElem?_set_ne hj] at h1 ⊢
      have h3 : j ∈ ms := by
        rcases List.mem_cons.mp h2 with z | z
        · exact absurd z.symm hj
        · exact (mem_rm.mp z).1
      exact e.own j dj h1 h3
  · have hm : ∀ {j : Nat}, j ∈ i :: rm i ms → i ≠ j → j ∈ ms := fun {j} h hj => by
      rcases List.mem_cons.mp h with z | z
      · exact absurd z.symm hj
      · exact (mem_rm.mp z).1
    by_cases hj : i = j
    · subst hj
      have hl : i ≠ l := h5
      rw [List.getElem?_set_ne hl] at h2 ⊢
      have hi : i < en.length := by have := (List.getElem?_eq_some_iff.mp h1).1; simpa using this
      rw [List.getElem?_set_self (by rw [← e.len]; exact hi)]
      exact fun z => ap l dl (hm h4 hl) h2 z.symm
    · by_cases hl : i = l
      · subst hl
        rw [List.getElem?_set_ne hj] at h1 ⊢
        have hi : i < en.length := by have := (List.getElem?_eq_some_iff.mp h2).1; simpa using this
        rw [List.getElem?_set_self (by rw [← e.len]; exact hi)]
        exact ap j dj (hm h3 hj) h1
      · rw [List.getElem?_set_ne hj] at h1 ⊢
        rw [List.getElem?_set_ne hl] at h2 ⊢
        exact e.apart j l dj dl h1 h2 (hm h3 hj) (hm h4 hl) h5
theorem fs_setN {i : Nat} {x : Str} {pos' : Pos} (hN : X.N.Nodup) (he : PE X e (nF T W ms f)) (hi : X.N[i]? = some x := by rfl) (hx : Loc X.env.scope x := by first | exact Or.inl rfl | exact Or.inr rfl) (hs : swapsWith e (some (.Name x pos')) pos.line X.env = pure false := by rfl)
    (hf : X.fn x = true ∨ X.env.scope.names.lookup x = some .local := by first | exact .inl rfl | exact .inr rfl | assumption) : PS X (.Assign [.Name x pos'] e pos) (sF T W ms (i :: rm i ms) mb (sSet i f)) :=
  mS (ps_set hN hi hx he hs hf) fun Dn σ H ⟨H0, B0, en, pend, sr, post⟩ => ⟨H0, B0, en, pend, sr, SPost.liftN post fun d v H' s p => p _ H' s.put⟩
/-- a new object, owned -/
theorem SRL.own {ds : List D} {vs : List V} {p : Addr} (s : SRL T ms H0 B0 en σ H ds vs pend) (n : H p = none) : SRO T H0 B0 ms en σ (upd H p (.lst vs)) (.lst ds) (.ref p) pend := by
  obtain ⟨B, c, e, q, r⟩ := s
  have sm := same_upd (o := .lst vs) n
  have nb : ¬ B p := fun z => c.all p z n
  have hH : ∀ a o, B a → H a = some o → upd H p (.lst vs) a = some o := fun a o _ e => sm a o e
  refine ⟨B, ⟨c.same.trans sm, c.sub, c.new, fun a h z => c.all a h (sm.free z)⟩, ⟨e.len, fun i d h1 h2 => ?_, fun i d h1 h2 => ?_, e.apart⟩, fun z hz => Rep.mono (fun _ h => h) hH _ _ (q z hz), ⟨p, rfl, nb, c.same.free n, vs, upd_same, Reps.mono (fun _ h => h) hH _ _ r⟩, fun j dj h1 h2 z => ?_⟩
  · obtain ⟨v, e1, r⟩ := e.rep i d h1 h2
    exact ⟨v, e1, Rep.mono (fun _ h => h) hH _ _ r⟩
  · obtain ⟨v, e1, a, rfl, nb', n0, o⟩ := e.own i d h1 h2
    refine ⟨_, e1, a, rfl, nb', n0, ?_⟩
    cases d with
    | lst ds => obtain ⟨vs, e, r⟩ := o; exact ⟨vs, sm _ _ e, Reps.mono (fun _ h => h) hH _ _ r⟩
    | dK ds => obtain ⟨vs, e, r⟩ := o; exact ⟨vs, sm _ _ e, RepK.mono (fun _ h => h) hH _ _ r⟩
    | dT ds => obtain ⟨vs, e, r⟩ := o; exact ⟨vs, sm _ _ e, RepT.mono (fun _ h => h) hH _ _ r⟩
    | obj c fs => obtain ⟨dx, vs, e, r⟩ := o; exact ⟨dx, vs, sm _ _ e, RepF.mono (fun _ h => h) hH _ _ r⟩
    | _ => exact o.elim
  · obtain ⟨v, e1, a, rfl, nb', n0, o⟩ := e.own j dj h2 h1
    rw [e1] at z
    cases z
    exact o.there n
theorem fn_lst {es : List Expr} {fa : En → R (List D)} (h : PA X es (aF T W ms fa)) : PE X (.List es pos) (nF T W ms (eLst fa)) :=
  mE (pe_lst h) fun σ H Q ⟨H0, B0, en, pend, sr, post⟩ => ⟨H0, B0, en, pend, sr, by
    unfold eLst eCall at post
    cases q : fa en with
    | exc c fs => rw [q] at post; exact post
    | bad => rw [q] at post; exact post.elim
    | ok ds =>
      rw [q, R.bind_ok] at post
      intro vs H' s
      unfold dLst at post
      split at post
      · rename_i hl
        exact ⟨by rw [sizeLine_eq, ← s.length]; exact hl, fun q n => post _ _ (s.own n)⟩
      · exact post.elim⟩
/-- [..] * n -/
def dRepL : D → D → R D
  | .lst i, .int j => if j ≤ 16777216 ∧ -16777216 ≤ j ∧ i.length * j.toNat ≤ 16777216 then .ok (.lst (List.replicate j.toNat i).flatten) else .bad
  | _, _ => .bad
theorem fn_rep {a b : Expr} {g : EF} (ha : PE X a (tF T W ms f)) (hb : PE X b (tF T W ms g)) : PE X (.BinOp a .Mult b pos) (nF T W ms (eB2 dRepL f g)) :=
  mE (pe_op op_rep ha hb) fun σ H Q ⟨H0, B0, en, pend, sr, post⟩ => ⟨H0, B0, en, pend, sr, by
    unfold eB2 at post
    cases q : f en with
    | exc c fs => rw [q] at post; exact post
    | bad => rw [q] at post; exact post.elim
    | ok dx =>
      rw [q, R.bind_ok] at post
      intro x H1 s1
      refine ⟨H0, B0, en, (dx, x) :: pend, s1, ?_⟩
      cases q2 : g en with
      | exc c fs => rw [q2] at post; exact post
      | bad => rw [q2] at post; exact post.elim
      | ok dy =>
        rw [q2, R.bind_ok] at post
        intro y H2 s2
        obtain ⟨B, c, e, p, r1, r2⟩ := two s2
        unfold dRepL at post
        split at post
        · split at post
          · rename_i hl
            obtain ⟨a1, vs1, rfl, _, h1, rs1⟩ := rep_lst.mp r1
            refine ⟨_, _, _, rfl, rep_int.mp r2, h1, by omega, by omega, fits_line (by rw [← rs1.length]; exact hl.2.2), fun z n => post _ _ ?_⟩
            exact SRL.own ⟨B, c, e, fun q hq => p q (List.mem_cons_of_mem _ (List.mem_cons_of_mem _ hq)), flatten_rep rs1 _⟩ n
          · exact post.elim
        · exact post.elim⟩

/-! ### what a name owns is changed -/
theorem SR.write {i : Nat} {a : Addr} {d d' : D} {o : HO} (s : SR T H0 B0 ms en σ H pend) (hi : i ∈ ms) (hd : en[i]? = some (some d)) (hv : σ[i]? = some (some (.ref a)))
    (hw : ∀ B, (∀ b o', B b → H b = some o' → upd H a o b = some o') → Core H0 B0 B H → (∀ p ∈ pend, Rep T B H p.1 p.2) → OwnAt T B H d a → OwnAt T B (upd H a o) d' a) : SR T H0 B0 ms (en.set i (some d')) σ (upd H a o) pend := by
  obtain ⟨B, c, e, p⟩ := s
  obtain ⟨v, e1, b, rfl, nb, n0, own⟩ := e.own i d hd hi
  rw [hv] at e1; cases e1
  have hH : ∀ b o', B b → H b = some o' → upd H a o b = some o' := fun b o' hb h => by
    have hba : b ≠ a := fun z => nb (z ▸ hb)
    rw [upd_ne hba]; exact h
  have hl : i < en.length := (List.getElem?_eq_some_iff.mp hd).1
  refine ⟨B, ⟨fun b o' h => ?_, c.sub, c.new, fun b h z => ?_⟩, ⟨by simpa using e.len, fun j dj h1 h2 => ?_, fun j dj h1 h2 => ?_, fun j l dj dl h1 h2 h3 h4 h5 => ?_⟩, fun q hq => Rep.mono (fun _ h => h) hH _ _ (p q hq)⟩
  · rw [upd_ne (ne_of_none h n0)]; exact c.same b o' h
  · have hba : b ≠ a := fun z => nb (z ▸ h)
    rw [upd_ne hba] at z
    exact c.all b h z
  · have hj : i ≠ j := fun z => h2 (z ▸ hi)
    rw [List.getElem?_set_ne hj] at h1
    obtain ⟨v, e1, r⟩ := e.rep j dj h1 h2
    exact ⟨v, e1, Rep.mono (fun _ h => h) hH _ _ r⟩
  · by_cases hj : i = j
    · subst hj
      rw [List.getElem?_set_self hl] at h1
      cases h1
      exact ⟨_, hv, a, rfl, nb, n0, hw B hH c p own⟩
    · rw [List.getElem?_set_ne hj] at h1
      obtain ⟨v, e1, b, rfl, nb', n0', o'⟩ := e.own j dj h1 h2
      have hba : b ≠ a := fun z => e.apart i j d dj hd h1 hi h2 hj (by rw [hv, e1, z])
      refine ⟨_, e1, b, rfl, nb', n0', ?_⟩
      cases dj with
      | lst ds => obtain ⟨vs, e, r⟩ := o'; exact ⟨vs, by rw [upd_ne hba]; exact e, Reps.mono (fun _ h => h) hH _ _ r⟩
      | dK ds => obtain ⟨vs, e, r⟩ := o'; exact ⟨vs, by rw [upd_ne hba]; exact e, RepK.mono (fun _ h => h) hH _ _ r⟩
      | dT ds => obtain ⟨vs, e, r⟩ := o'; exact ⟨vs, by rw [upd_ne hba]; exact e, RepT.mono (fun _ h => h) hH _ _ r⟩
      | obj c fs => obtain ⟨dx, vs, e, r⟩ := o'; exact ⟨dx, vs, by rw [upd_ne hba]; exact e, RepF.mono (fun _ h => h) hH _ _ r⟩
      | _ => exact o'.elim
  · have hm : ∀ {j : Nat} {dj : D}, (en.set i (some d'))[j]? = some (some dj) → ∃ d2, en[j]? = some (some d2) := fun {j dj} h => by
      by_cases hj : i = j
      · subst hj; exact ⟨d, hd⟩
      · rw [List.getElem?_set_ne hj] at h; exact ⟨dj, h⟩
    obtain ⟨d1, q1⟩ := hm h1
    obtain ⟨d2, q2⟩ := hm h2
    exact e.apart j l d1 d2 q1 q2 h3 h4 h5
/-- an owned list -/
theorem SR.lstAt {i : Nat} {ds : List D} (s : SR T H0 B0 ms en σ H pend) (hi : i ∈ ms) (hd : en[i]? = some (some (.lst ds))) : ∃ a vs, σ[i]? = some (some (.ref a)) ∧ H a = some (.lst vs) ∧ ds.length = vs.length ∧
    ∃ B, Core H0 B0 B H ∧ EnOk T H0 B ms en σ H ∧ (∀ p ∈ pend, Rep T B H p.1 p.2) ∧ Reps T B H ds vs := by
  obtain ⟨B, c, e, p⟩ := s
  obtain ⟨v, e1, b, rfl, nb, n0, vs, h, r⟩ := e.own i _ hd hi
  exact ⟨b, vs, e1, h, r.length, B, c, e, p, r⟩
/-- its content is another one, made of what stands there -/
theorem SR.writeL {i : Nat} {a : Addr} {ds ds' : List D} {vs vs' : List V} (s : SR T H0 B0 ms en σ H pend) (hi : i ∈ ms) (hd : en[i]? = some (some (.lst ds))) (hv : σ[i]? = some (some (.ref a))) (ha : H a = some (.lst vs))
    (hr : ∀ B, (∀ p ∈ pend, Rep T B H p.1 p.2) → Reps T B H ds vs → Reps T B H ds' vs') : SR T H0 B0 ms (en.set i (some (.lst ds'))) σ (upd H a (.lst vs')) pend :=
  s.write hi hd hv fun B hH c p ⟨ws, e, r⟩ => by
    rw [ha] at e; cases e
    exact ⟨vs', upd_same, Reps.mono (fun _ h => h) hH _ _ (hr B p r)⟩
def sApp (i : Nat) (f : EF) : SF := fun en => match en[i]? with
  | some (some (.lst ds)) => lift (f en) en fun d => if ds.length < 16777216 then .nx (en.set i (some (.lst (ds ++ [d])))) else .bad
  | _ => .bad
theorem fs_app (i : Nat) (h : PE X e (tBM X.K "list" rAppend (tVar i) (L2.tCons (tF T W ms f) L2.tNil))) (hi : i ∈ ms := by decide) (hs : swapsWith e none pos.line X.env = pure false := by rfl) : PS X (.Expr e pos) (sF T W ms ms mb (sApp i f)) :=
  mS (ps_expr h hs) fun Dn σ H ⟨H0, B0, en, pend, sr, post⟩ => by
    unfold sApp at post
    split at post
    · rename_i ds hd
      obtain ⟨a, vs, h1, h2, h3, _⟩ := sr.lstAt hi hd
      refine ⟨.ref a, h1, .inl ⟨rfl, _, SqL.of h2⟩, H0, B0, en, pend, sr, SPost.lift post fun d v H' s p => ?_⟩
      obtain ⟨a', vs', h1', h2', h3', _⟩ := s.lstAt hi hd
      rw [h1] at h1'
      cases h1'
      split at p
      · rename_i hl
        refine ⟨a, vs', v, rfl, rfl, h2', by rw [sizeLine_eq, ← h3']; exact hl, p σ _ ?_⟩
        exact (s.writeL (ds' := ds ++ [d]) (vs' := vs' ++ [v]) hi hd h1 h2' fun B p r => r.append (Reps.one (p (d, v) List.mem_cons_self))).tail
      · exact p.elim
    · exact post.elim
/-- x[i] = e -/
def sPut (i : Nat) (f g : EF) : SF := fun en => lift (f en) en fun d => match en[i]? with
  | some (some (.lst ds)) => lift (g en) en fun k => match k with
    | .int k => match ixN ds.length k with
      | some j => .nx (en.set i (some (.lst (ds.set j d))))
      | none => .bad
    | _ => .bad
  | _ => .bad
theorem SPost.lift2 {r : R D} {k : D → RF} {Q : VK} {pend' : List (D × V)} (h : SPost T W mo mb H0 B0 pend (Fd.lift r en k) Dn) (c : ∀ d v H', SR T H0 B0 ms en σ H' ((d, v) :: pend') → SPost T W mo mb H0 B0 pend (k d) Dn → Q v H') : EPost T W ms H0 B0 en σ pend' r Q := by
  cases r with
  | ok d => exact fun v H' s => c d v H' s h
  | exc c fs => exact fun cls dd H' x => h cls dd σ H' x
  | bad => exact h
theorem fs_put (i : Nat) {k : Expr} {g : EF} {x : Str} {p1 p2 : Pos} (he : PE X e (tF T W ms f)) (hk : PE X k (tF T W ms g)) (hN : X.N[i]? = some x := by rfl) (hv : Vis X.env.scope x := by first | exact Or.inl rfl | exact Or.inr (Or.inl rfl) | exact Or.inr (Or.inr rfl))
    (hd : (x == ("__debug__" : Str)) = false := by decide) (hcd : (x == ("__classdict__" : Str)) = false := by decide) (hi : i ∈ ms := by decide)
    (ha : ∀ v, assign (.Subscript (.Name x p1) k p2) X.env v = (do
      let ov ← holding [v] (eval (.Name x p1) X.env)
      let iv ← holding [v, ov] (eval k X.env)
      standAt p2
      holding [v, ov, iv] (setItem ov iv v)
      release [v, ov, iv] []) := by intro _; rfl)
    (hs : swapsWithSole [.Subscript (.Name x p1) k p2] e pos.line X.env = pure false := by rfl) (hw : swappedStores [.Subscript (.Name x p1) k p2] e X.env = pure none := by rfl)
    (h1 : (assignEach [.Subscript (.Name x p1) k p2] X.env).map (·.2) = [assign (.Subscript (.Name x p1) k p2) X.env] := by rfl) :
    PS X (.Assign [.Subscript (.Name x p1) k p2] e pos) (sF T W ms ms mb (sPut i f g)) :=
  mS (ps_asg he (pg_sub (pe_var hN hv hd hcd) hk set_list ha) hs hw h1) fun Dn σ H ⟨H0, B0, en, pend, sr, post⟩ => ⟨H0, B0, en, pend, sr, SPost.lift post fun d v H1 s1 p => by
    split at p
    · rename_i ds hd
      obtain ⟨a, vs, h1, h2, h3, _⟩ := s1.lstAt hi hd
      refine ⟨.ref a, h1, H0, B0, en, (d, v) :: pend, s1, SPost.lift2 p fun dk kv H2 s2 p2 => ?_⟩
      obtain ⟨a', vs', h1', h2', h3', _⟩ := s2.lstAt hi hd
      rw [h1] at h1'
      cases h1'
      split at p2
      · split at p2
        · rename_i j hj
          obtain ⟨B, c, e, q, r⟩ := one s2
          refine ⟨a, vs', _, j, rfl, rep_int.mp r, h2', by rw [← h3']; exact hj, p2 σ _ ?_⟩
          exact (s2.writeL (ds' := ds.set j d) (vs' := vs'.set j v) hi hd h1 h2' fun B p r => r.set (p (d, v) (List.mem_cons_of_mem _ List.mem_cons_self)) j).tail.tail
        · exact p2.elim
      · exact p2.elim
    · exact p.elim⟩
/-- what an owned list gives: its length, an item, its truth -/
def eOwn (i : Nat) : EF := fun en => match en[i]? with
  | some (some (.lst ds)) => .ok (.lst ds)
  | _ => .bad
/-- any expression that gives no container may look at what the def owns -/
def isFlat : D → Bool
  | .non | .bl _ | .int _ | .str _ => true
  | _ => false
def eBorrow (f : EF) : EF := fun en => (f en).bind fun d => if isFlat d = true then .ok d else .bad
/-- everything owned is frozen for a while -/
theorem SR.ice {B : Addr → Prop} (c : Core H0 B0 B H) (eo : EnOk T H0 B ms en σ H) : ∃ B1, (∀ a, B a → B1 a) ∧ (∀ a, B1 a → B a ∨ H0 a = none) ∧ (∀ a, B1 a → H a ≠ none) ∧ EnOk T H B1 [] en σ H := by
  have sr : SR T H0 B0 ms en σ H [] := ⟨B, c, eo, fun _ h => by simp at h⟩
  let B1 : Addr → Prop := fun a => B a ∨ ∃ i d, i ∈ ms ∧ en[i]? = some (some d) ∧ σ[i]? = some (some (.ref a))
  have hB : ∀ a, B a → B1 a := fun _ h => .inl h
  have hH : ∀ a o, B a → H a = some o → H a = some o := fun _ _ _ e => e
  refine ⟨B1, hB, fun a h => ?_, fun a h => ?_, ⟨eo.len, fun i d h1 _ => ?_, fun i d _ h => by simp at h, fun i j di dj _ _ h => by simp at h⟩⟩
  · rcases h with h | ⟨i, d, h1, h3, h4⟩
    · exact .inl h
    · obtain ⟨v, q, b, rfl, nb, n0, _⟩ := eo.own i d h3 h1
      rw [h4] at q; cases q; exact .inr n0
  · rcases h with h | ⟨i, d, h1, h3, h4⟩
    · exact c.all a h
    · obtain ⟨v, q, b, rfl, nb, n0, o⟩ := eo.own i d h3 h1
      rw [h4] at q; cases q; exact o.there
  · by_cases hi : i ∈ ms
    · obtain ⟨v, q, b, rfl, nb, n0, o⟩ := eo.own i d h1 hi
      refine ⟨.ref b, q, ?_⟩
      have hb : B1 b := .inr ⟨i, d, hi, h1, q⟩
      cases d with
      | lst ds => obtain ⟨vs, e, r⟩ := o; exact rep_lst.mpr ⟨b, vs, rfl, hb, e, Reps.mono hB hH _ _ r⟩
      | dK ds => obtain ⟨vs, e, r⟩ := o; exact rep_dK.mpr ⟨b, vs, rfl, hb, e, RepK.mono hB hH _ _ r⟩
      | dT ds => obtain ⟨vs, e, r⟩ := o; exact rep_dT.mpr ⟨b, vs, rfl, hb, e, RepT.mono hB hH _ _ r⟩
      | obj c fs => obtain ⟨dx, vs, e, r⟩ := o; exact rep_obj.mpr ⟨b, dx, vs, rfl, hb, e, RepF.mono hB hH _ _ r⟩
      | _ => exact o.elim
    · obtain ⟨v, q, r⟩ := eo.rep i d h1 hi
      exact ⟨v, q, Rep.mono hB hH _ _ r⟩
theorem SX.of_ice {B B1 : Addr → Prop} {H' : Hp} {c : String} {fs : List (Str × D)} {cls : Value} {dd : Option Addr} (cr : Core H0 B0 B H) (h1 : ∀ a, B a → B1 a) (h2 : ∀ a, B1 a → B a ∨ H0 a = none) (x : SX T H B1 en σ H' c fs cls dd) : SX T H0 B0 en σ H' c fs cls dd := by
  obtain ⟨B2, c2, e2, x2⟩ := x
  refine ⟨B2, ⟨cr.same.trans c2.same, fun a h => c2.sub a (h1 a (cr.sub a h)), fun a h => ?_, c2.all⟩, ⟨e2.len, e2.rep, fun i d _ h => by simp at h, fun i j di dj _ _ h => by simp at h⟩, x2⟩
  rcases c2.new a h with h | h
  · rcases h2 a h with h | h
    · exact cr.new a h
    · exact .inr h
  · exact .inr (cr.same.free h)
theorem flat_of {d : D} {v : V} {B : Addr → Prop} {H : Hp} (h : isFlat d = true) (r : Rep T B H d v) : Flat d v := by
  cases d <;> simp [isFlat] at h <;> simpa [Rep, Flat] using r
theorem fe_borrow (h : PE X e (tF T W [] f)) : PE X e (tF T W ms (eBorrow f)) :=
  mE h fun σ H Q ⟨H0, B0, en, pend, sr, post⟩ => by
    obtain ⟨B, c, eo, p⟩ := id sr
    obtain ⟨B1, h1, h2, h3, e1⟩ := SR.ice c eo
    refine ⟨H, B1, en, [], ⟨B1, Core.refl h3, e1, fun _ h => by simp at h⟩, ?_⟩
    unfold eBorrow at post
    cases q : f en with
    | ok d =>
      rw [q, R.bind_ok] at post
      intro v H' s
      split at post
      · rename_i hf
        obtain ⟨B2, c2, e2, p2⟩ := s
        exact post v H' ((sr.grow c2.same).flat (flat_of hf (p2 (d, v) List.mem_cons_self)))
      · exact post.elim
    | exc c' fs =>
      rw [q] at post
      exact fun cls dd H' x => post cls dd H' (SX.of_ice c h1 h2 x)
    | bad => rw [q] at post; exact post.elim
theorem ft_borrow (h : PT X e (cF T W [] c)) : PT X e (cF T W ms c) :=
  mT h fun σ H Q ⟨H0, B0, en, pend, sr, post⟩ => by
    obtain ⟨B, cr, eo, p⟩ := id sr
    obtain ⟨B1, h1, h2, h3, e1⟩ := SR.ice cr eo
    refine ⟨H, B1, en, [], ⟨B1, Core.refl h3, e1, fun _ h => by simp at h⟩, ?_⟩
    cases q : c en with
    | ok d =>
      rw [q] at post
      intro H' s
      obtain ⟨B2, c2, e2, p2⟩ := s
      exact post H' (sr.grow c2.same)
    | exc c' fs =>
      rw [q] at post
      exact fun cls dd H' x => post cls dd H' (SX.of_ice cr h1 h2 x)
    | bad => rw [q] at post; exact post.elim
/-- an item of an owned list -/
def eIxO (i : Nat) (g : EF) : EF := fun en => match en[i]? with
  | some (some (.lst ds)) => (g en).bind fun k => dIx (.lst ds) k
  | _ => .bad
theorem fe_ixO (i : Nat) {k : Expr} {g : EF} {x : Str} {p1 : Pos} (hk : PE X k (tF T W ms g)) (hK : X.K = T.K := by rfl) (hN : X.N[i]? = some x := by rfl) (hv : Vis X.env.scope x := by first | exact Or.inl rfl | exact Or.inr (Or.inl rfl) | exact Or.inr (Or.inr rfl))
    (hd : (x == ("__debug__" : Str)) = false := by decide) (hcd : (x == ("__classdict__" : Str)) = false := by decide) (hi : i ∈ ms := by decide) (hp : PlainIx k := by intro _ _; rfl) : PE X (.Subscript (.Name x p1) k pos) (tF T W ms (eIxO i g)) :=
  mE (pe_ix ix_list (pe_var hN hv hd hcd) hk hp) fun σ H Q ⟨H0, B0, en, pend, sr, post⟩ => by
    unfold eIxO at post
    split at post
    · rename_i ds hd
      obtain ⟨a, vs, h1, h2, h3, _⟩ := sr.lstAt hi hd
      refine ⟨.ref a, h1, H0, B0, en, pend, sr, ?_⟩
      cases q : g en with
      | ok kd =>
        rw [q, R.bind_ok] at post
        intro kv H2 s2
        obtain ⟨a', vs', h1', h2', h3', B, c, e, p, r⟩ := s2.lstAt hi hd
        rw [h1] at h1'; cases h1'
        unfold dIx at post
        split at post
        · rename_i hq
          cases hq
          split at post
          · rename_i d hd2
            obtain ⟨v, hv, rv⟩ := atI_reps r hd2
            exact ⟨_, _, _, v, rfl, rep_int.mp (p _ List.mem_cons_self), SqL.of h2', hv, post v H2 ⟨B, c, e, fun z hz => by
              rcases List.mem_cons.mp hz with rfl | hz
              · exact rv
              · exact p z (List.mem_cons_of_mem _ hz)⟩⟩
          · exact post.elim
        · rename_i hq; cases hq
        · rename_i hq; cases hq
        · rename_i hq; cases hq
        · exact post.elim
      | exc c fs => rw [q] at post; exact post
      | bad => rw [q] at post; exact post.elim
    · exact post.elim

/-! ### targets -/
/-- σ' is σ but at js -/
def But (js : List Nat) (σ σ' : L2.St) : Prop := σ'.length = σ.length ∧ ∀ j, j ∉ js → σ'[j]? = σ[j]?
def gF (T : Tab) (ms js : List Nat) (t : TGF) : TG := fun v σ H Q => ∃ H0 B0 en pend d, SR T H0 B0 ms en σ H ((d, v) :: pend) ∧ ∃ en', t d en = some en' ∧ ∀ σ' H', SR T H0 B0 ms en' σ' H' pend → But js σ σ' → Q σ' H'
def gsF (T : Tab) (ms js : List Nat) (t : List D → En → Option En) : TGs := fun vs σ H Q => ∃ H0 B0 en pend ds, SRL T ms H0 B0 en σ H ds vs pend ∧ ∃ en', t ds en = some en' ∧ ∀ σ' H', SR T H0 B0 ms en' σ' H' pend → But js σ σ' → Q σ' H'
theorem rm_self {i : Nat} {ms : List Nat} (h : i ∉ ms) : rm i ms = ms := List.filter_eq_self.mpr fun j hj => by
  simp only [bne_iff_ne, ne_eq]; exact fun z => h (z ▸ hj)
theorem fg_name {i : Nat} {x : Str} (hN : X.N.Nodup) (hi : X.N[i]? = some x := by rfl) (hx : Loc X.env.scope x := by first | exact Or.inl rfl | exact Or.inr rfl) (hm : i ∉ ms := by decide)
    (hf : X.fn x = true ∨ X.env.scope.names.lookup x = some .local := by first | exact .inl rfl | exact .inr rfl | assumption) : PG X (.Name x pos) (gF T ms [i] (tgName i)) :=
  mG (pg_name hN hi hx hf) fun v σ H Q ⟨H0, B0, en, pend, d, sr, en', h, q⟩ => by
    cases h
    have s := sr.put (i := i)
    rw [rm_self hm] at s
    exact q _ H s ⟨by simp, fun j hj => List.getElem?_set_ne fun z => hj (List.mem_singleton.mpr z.symm)⟩
theorem fgs_nil : PGs X [] (gsF T ms [] tgNil) := mGs pgs_nil fun vs σ H Q ⟨H0, B0, en, pend, ds, sr, en', h, q⟩ => by
  unfold tgNil at h
  split at h
  · cases h
    obtain ⟨B, c, e, p, r⟩ := sr
    exact ⟨reps_nil.mp r, q σ H ⟨B, c, e, p⟩ ⟨rfl, fun _ _ => rfl⟩⟩
  · cases h
theorem reps_zip {B : Addr → Prop} : ∀ {ds : List D} {ws : List V}, Reps T B H ds ws ↔ (ds.length = ws.length ∧ ∀ p ∈ ds.zip ws, Rep T B H p.1 p.2)
  | [], ws => by
    rw [reps_nil]
    constructor
    · rintro rfl; simp
    · rintro ⟨h, _⟩; exact List.length_eq_zero_iff.mp h.symm
  | d :: ds, ws => by
    rw [reps_cons]
    constructor
    · rintro ⟨v, vs, rfl, r, rs⟩
      obtain ⟨h1, h2⟩ := reps_zip.mp rs
      refine ⟨by simp [h1], fun p hp => ?_⟩
      rw [List.zip_cons_cons] at hp
      rcases List.mem_cons.mp hp with rfl | hp
      · exact r
      · exact h2 p hp
    · rintro ⟨h1, h2⟩
      cases ws with
      | nil => simp at h1
      | cons v vs =>
        rw [List.zip_cons_cons] at h2
        exact ⟨v, vs, rfl, h2 (d, v) List.mem_cons_self, reps_zip.mpr ⟨by simpa using h1, fun p hp => h2 p (List.mem_cons_of_mem _ hp)⟩⟩
theorem fgs_cons {es : List Expr} {t : TGF} {us : List D → En → Option En} {js ks : List Nat} (h1 : PG X e (gF T ms js t)) (h2 : PGs X es (gsF T ms ks us)) (hs : (assignEach (e :: es) X.env).map (·.2) = assign e X.env :: (assignEach es X.env).map (·.2) := by rfl) : PGs X (e :: es) (gsF T ms (js ++ ks) (tgCons t us)) :=
  mGs (pgs_cons h1 h2 hs) fun vs σ H Q ⟨H0, B0, en, pend, ds, sr, en', h, q⟩ => by
    unfold tgCons at h
    split at h
    · rename_i d ds
      split at h
      · rename_i en1 h3
        obtain ⟨B, c, e, p, r⟩ := sr
        obtain ⟨v, ws, rfl, rv, rs⟩ := reps_cons.mp r
        obtain ⟨z1, z2⟩ := reps_zip.mp rs
        refine ⟨v, ws, rfl, H0, B0, en, (ds.zip ws) ++ pend, d, ⟨B, c, e, fun z hz => ?_⟩, en1, h3, fun σ1 H1 s1 b1 => ?_⟩
        · rcases List.mem_cons.mp hz with rfl | hz
          · exact rv
          · rcases List.mem_append.mp hz with hz | hz
            · exact z2 z hz
            · exact p z hz
        · obtain ⟨B1, c1, e1, p1⟩ := s1
          exact ⟨H0, B0, en1, pend, ds, ⟨B1, c1, e1, fun z hz => p1 z (List.mem_append_right _ hz), reps_zip.mpr ⟨z1, fun z hz => p1 z (List.mem_append_left _ hz)⟩⟩, en', h, fun σ2 H2 s2 b2 => q σ2 H2 s2 ⟨b2.1.trans b1.1, fun j hj => (b2.2 j fun z => hj (List.mem_append_right _ z)).trans (b1.2 j fun z => hj (List.mem_append_left _ z))⟩⟩
      · cases h
    · cases h
theorem fg_tup {es : List Expr} {k n : Nat} {us : List D → En → Option En} {js : List Nat} (hc : X.calm = true) (h : PGs X es (gsF T ms js us)) (hl : ∀ ds en, ds.length ≠ n → us ds en = none) (hK : X.K = T.K := by rfl)
    (hn : (assignEach es X.env).length = n := by rfl) (hst : (assignEach es X.env).findIdx? (·.1) = none := by rfl) : PG X (.Tuple es k pos) (gF T ms js (tgTup us)) :=
  mG (pg_tup hc h hn hst) fun v σ H Q ⟨H0, B0, en, pend, d, sr, en', h, q⟩ => by
    unfold tgTup at h
    split at h
    · rename_i ds
      obtain ⟨B, c, e, p, r⟩ := one sr
      obtain ⟨a, vs, rfl, h1, rs⟩ := rep_tup.mp r
      refine ⟨a, vs, rfl, by rw [hK]; exact tupAt h1, ?_, H0, B0, en, pend, ds, ⟨B, c, e, fun z hz => p z (List.mem_cons_of_mem _ hz), rs⟩, en', h, q⟩
      rw [← rs.length]
      exact Classical.byContradiction fun z => by rw [hl ds en z] at h; cases h
    · cases h
theorem tg_len0 : ∀ ds en, ds.length ≠ 0 → tgNil ds en = none := fun ds en h => by
  cases ds with
  | nil => exact absurd rfl h
  | cons d ds => rfl
theorem tg_len {t : TGF} {us : List D → En → Option En} {n : Nat} (h : ∀ ds en, ds.length ≠ n → us ds en = none) : ∀ ds en, ds.length ≠ n + 1 → tgCons t us ds en = none := fun ds en hl => by
  cases ds with
  | nil => rfl
  | cons d ds =>
    show (match t d en with | some en' => us ds en' | none => none) = none
    cases t d en with
    | none => rfl
    | some en' => exact h ds en' fun z => hl (by simp [z])
theorem fs_asg {tg : Expr} {t : TGF} {js : List Nat} (he : PE X e (tF T W ms f)) (hg : PG X tg (gF T ms js t)) (hs : swapsWithSole [tg] e pos.line X.env = pure false := by rfl) (hw : swappedStores [tg] e X.env = pure none := by rfl)
    (h1 : (assignEach [tg] X.env).map (·.2) = [assign tg X.env] := by rfl) : PS X (.Assign [tg] e pos) (sF T W ms ms mb (sAsg t f)) :=
  mS (ps_asg he hg hs hw h1) fun Dn σ H ⟨H0, B0, en, pend, sr, post⟩ => ⟨H0, B0, en, pend, sr, SPost.lift post fun d v H' s p => by
    split at p
    · rename_i en' h; exact ⟨H0, B0, en, pend, d, s, en', h, fun σ' H' s' _ => p σ' H' s'⟩
    · exact p.elim⟩

/-! ### what a loop walks -/
structure Wlk (T : Tab) (H0 : Hp) (B0 : Addr → Prop) (J : It) (ds : List D) (pend : List (D × V)) : Prop where
  stop : ∀ B H, Core H0 B0 B H → (∀ p ∈ pend, Rep T B H p.1 p.2) → J.stop ds.length H
  go : ∀ i, i < ds.length → ∀ B H, Core H0 B0 B H → (∀ p ∈ pend, Rep T B H p.1 p.2) → J.go i H
  yld : ∀ i d, ds[i]? = some d → ∀ B H x H', Core H0 B0 B H → (∀ p ∈ pend, Rep T B H p.1 p.2) → J.yld i H x H' → Same H H' ∧ Rep T (Grow B H H') H' d x
def IPost (T : Tab) (W : WX) (ms : List Nat) (H0 : Hp) (B0 : Addr → Prop) (en : En) (σ : L2.St) (pend : List (D × V)) (r : R (List D)) (Rk : It → Hp → Prop) : Prop := match r with
  | .ok ds => ∀ J H' pend', Wlk T H0 B0 J ds pend' → SR T H0 B0 ms en σ H' (pend' ++ pend) → Rk J H'
  | .exc c fs => ∀ cls dd H', SX T H0 B0 en σ H' c fs cls dd → W cls dd σ H'
  | .bad => False
def iF (T : Tab) (W : WX) (ms : List Nat) (it : IF) : TI := fun σ H Rk => ∃ H0 B0 en pend, SR T H0 B0 ms en σ H pend ∧ IPost T W ms H0 B0 en σ pend (it en) Rk
theorem SPost.liftI {r : R (List D)} {k : List D → RF} {Q : It → Hp → Prop} (h : SPost T W mo mb H0 B0 pend (Fd.liftL r en k) Dn) (c : ∀ ds J H' pend', Wlk T H0 B0 J ds pend' → SR T H0 B0 ms en σ H' (pend' ++ pend) → SPost T W mo mb H0 B0 pend (k ds) Dn → Q J H') :
    IPost T W ms H0 B0 en σ pend r Q := by
  cases r with
  | ok d => exact fun J H' p w s => c d J H' p w s h
  | exc c fs => exact fun cls dd H' x => h cls dd σ H' x
  | bad => exact h
theorem fs_for {tg iter : Expr} {body : List Stmt} {it : IF} {t : TGF} {js : List Nat} (hp : PassesOwn (model X.prog X.w) X.A X.env X.xe) (hc : X.calm = true) (hi : PI X tg iter (iF T W ms it)) (hg : PG X tg (gF T ms js t)) (hb : PSs X body (sF T W ms ms ms u))
    (hs : ∀ x, foldedSetIterable iter X.env x = pure x := by intro _; rfl) : PS X (.For tg iter body [] pos) (sF T W ms ms mb (sFor it t u)) :=
  mS (ps_for hp hc hi hg hb hs) fun Dn σ H ⟨H0, B0, en, pend, sr, post⟩ => ⟨H0, B0, en, pend, sr, SPost.liftI post fun ds J H1 pend' wk s1 p1 => by
    refine ⟨fun i m σ H => m = ds.length - i ∧ i ≤ ds.length ∧ ∃ en', SR T H0 B0 ms en' σ H (pend' ++ pend) ∧ SPost T W ms mb H0 B0 pend (forL t u (ds.drop i) en') Dn, ⟨ds.length, by simp, Nat.zero_le _, en, s1, by simpa using p1⟩, ?_⟩
    rintro i m σ H ⟨rfl, hle, en', s, p⟩
    have s' : SR T H0 B0 ms en' σ H pend := s.sub fun z hz => List.mem_append_right _ hz
    obtain ⟨B, c, e, q⟩ := id s
    have qp : ∀ z ∈ pend', Rep T B H z.1 z.2 := fun z hz => q z (List.mem_append_left _ hz)
    by_cases hlt : i < ds.length
    · refine .inr ⟨wk.go i hlt B H c qp, fun σ' H' => ∃ en2, SR T H0 B0 ms en2 σ' H' (pend' ++ pend) ∧ SPost T W ms mb H0 B0 pend (forL t u (ds.drop (i + 1)) en2) Dn, fun σ' H' ⟨en2, s2, p2⟩ => ⟨ds.length - (i + 1), by omega, rfl, hlt, en2, s2, p2⟩, fun x H' y => ?_⟩
      have hd : ds[i]? = some ds[i] := by simp [hlt]
      obtain ⟨sm, rx⟩ := wk.yld i _ hd B H x H' c qp y
      have s2 : SR T H0 B0 ms en' σ H' ((ds[i], x) :: (pend' ++ pend)) := ⟨_, c.grow sm, e.grow sm, fun z hz => by
        rcases List.mem_cons.mp hz with rfl | hz
        · exact rx
        · exact (q z hz).grow sm⟩
      rw [List.drop_eq_getElem_cons hlt] at p
      unfold forL at p
      split at p
      · exact p.elim
      · rename_i en1 h1
        refine ⟨H0, B0, en', pend' ++ pend, ds[i], s2, en1, h1, fun σ2 H2 s3 _ => ⟨H0, B0, en1, pend' ++ pend, s3, ?_⟩⟩
        cases z : u en1 with
        | nx e2 => rw [z] at p; exact fun σ H s => ⟨e2, s, p⟩
        | cnt e2 => rw [z] at p; exact fun σ H s => ⟨e2, s, p⟩
        | brk e2 => rw [z] at p; exact fun σ H s => p σ H (s.sub fun z hz => List.mem_append_right _ hz)
        | ret d => rw [z] at p; exact p
        | exc c fs e2 => rw [z] at p; exact p
        | bad => rw [z] at p; exact p
    · have e0 : i = ds.length := by omega
      subst e0
      refine .inl ⟨wk.stop B H c qp, ?_⟩
      rw [List.drop_length] at p
      exact p σ H s'⟩

/-! ### while -/
theorem whileN_more {c : CF} {f : SF} : ∀ {n : Nat} {en : En} {r : RF}, whileN c f n en = some r → ∀ m, whileN c f (n + m) en = some r
  | 0, en, r, h, m => by cases h
  | n + 1, en, r, h, m => by
    rw [Nat.add_right_comm]
    unfold whileN at h ⊢
    split at h
    · split at h
      · exact whileN_more h m
      · exact whileN_more h m
      all_goals exact h
    all_goals exact h
theorem whileN_inj {c : CF} {f : SF} {n m : Nat} {en : En} {r r' : RF} (h : whileN c f n en = some r) (h' : whileN c f m en = some r') : r = r' := by
  have e1 := whileN_more h m
  have e2 := whileN_more h' n
  rw [Nat.add_comm] at e2
  rw [e1] at e2
  exact Option.some.inj e2
theorem sWhile_of {c : CF} {f : SF} {n : Nat} {en : En} {r : RF} (h : whileN c f n en = some r) : sWhile c f en = r := by
  have hx : ∃ n r, whileN c f n en = some r := ⟨n, r, h⟩
  unfold sWhile
  rw [dif_pos hx]
  exact whileN_inj (Classical.choose_spec (Classical.choose_spec hx)) h
theorem sWhile_ok {c : CF} {f : SF} {en : En} (h : sWhile c f en ≠ .bad) : ∃ n, whileN c f n en = some (sWhile c f en) := by
  unfold sWhile at h
  split at h
  · rename_i hx
    obtain ⟨n, r, hr⟩ := hx
    exact ⟨n, by rw [sWhile_of hr]; exact hr⟩
  · exact absurd rfl h
theorem fs_while {k : Expr} {body : List Stmt} (hp : PassesOwn (model X.prog X.w) X.A X.env X.xe) (hc : PT X k (cF T W ms c)) (hb : PSs X body (sF T W ms ms ms u)) : PS X (.While k body [] pos) (sF T W ms ms mb (sWhile c u)) :=
  mS (ps_while hp hc hb) fun Dn σ H ⟨H0, B0, en, pend, sr, post⟩ => by
    have hne : sWhile c u en ≠ .bad := fun z => by rw [z] at post; exact post
    obtain ⟨n, hn⟩ := sWhile_ok hne
    refine ⟨fun m σ H => ∃ en' r, SR T H0 B0 ms en' σ H pend ∧ whileN c u m en' = some r ∧ SPost T W ms mb H0 B0 pend r Dn, ⟨n, en, _, sr, hn, post⟩, ?_⟩
    rintro m σ H ⟨en', r, s, hw, p⟩
    cases m with
    | zero => cases hw
    | succ m =>
      refine ⟨H0, B0, en', pend, s, ?_⟩
      unfold whileN at hw
      cases q : c en' with
      | ok b =>
        rw [q] at hw
        intro H1 s1
        cases b with
        | true =>
          rw [if_pos rfl]
          refine ⟨fun σ' H' => ∃ en2, SR T H0 B0 ms en2 σ' H' pend ∧ whileN c u m en2 = some r, fun σ' H' ⟨en2, s2, h2⟩ => ⟨m, Nat.lt_succ_self _, en2, r, s2, h2, p⟩, H0, B0, en', pend, s1, ?_⟩
          simp only at hw
          cases z : u en' with
          | nx e2 => rw [z] at hw; exact fun σ H s => ⟨e2, s, hw⟩
          | cnt e2 => rw [z] at hw; exact fun σ H s => ⟨e2, s, hw⟩
          | brk e2 => rw [z] at hw; cases hw; exact p
          | ret d => rw [z] at hw; cases hw; exact p
          | exc c fs e2 => rw [z] at hw; cases hw; exact p
          | bad => rw [z] at hw; cases hw; exact p
        | false =>
          rw [if_neg (by decide)]
          cases hw
          exact p σ H1 s1
      | exc c' fs => rw [q] at hw; cases hw; exact fun cls dd H' x => p cls dd σ H' x
      | bad => rw [q] at hw; cases hw; exact p
end

/-! ### a def -/
def fnF (m : Nat) (body : SF) : List D → R D := fun ds => match body (ds.map some ++ List.replicate (m - ds.length) none) with
  | .nx _ => .ok .non
  | .ret d => .ok d
  | .exc c fs _ => .exc c fs
  | _ => .bad
theorem reps_slot {T : Tab} {B : Addr → Prop} {H : Hp} {ds : List D} {vs : List V} (r : Reps T B H ds vs) (n : Nat) {i : Nat} {d : D} (h : (ds.map some ++ List.replicate n none)[i]? = some (some d)) :
    ∃ v, (vs.map some ++ List.replicate n none)[i]? = some (some v) ∧ Rep T B H d v := by
  by_cases hi : i < ds.length
  · rw [List.getElem?_append_left (by simpa using hi)] at h
    rw [List.getElem?_append_left (by rw [List.length_map, ← r.length]; exact hi)]
    rw [List.getElem?_map] at h ⊢
    cases q : ds[i]? with
    | none => rw [q] at h; cases h
    | some d' =>
      rw [q] at h
      cases h
      obtain ⟨v, e, rv⟩ := r.get q
      exact ⟨v, by rw [e]; rfl, rv⟩
  · rw [List.getElem?_append_right (by simpa using hi), List.getElem?_replicate] at h
    split at h <;> cases h
section
variable {P : Program} {w : World} {K : PySem.W.Frag} {mg : Str → Option Value} {base : Heap}
theorem fn_ok {T : Tab} {x qual : Str} {st : Stmt} {f : Addr} {fd : FuncData} {N ps : List Str} {k n : Nat} {mo mb : List Nat} (m : Nat) {body : SF} (F : Fun K x qual st f fd) (S : FnScope N ps (defScope st)) (hn : ps.length = n) (hm : N.length = m)
    (h : ∀ (cdv : Value) (A : Around) (outer : List Env) (s : Shared) (H : Hp) (E : XK), Room k (A.deeper (envOfC qual (defScope st) s.heap.objs.size f cdv)) →
      PSs (cxOf (L2.CX P w) P w K mg base N qual (defScope st) f cdv A outer s H E) (defBody st) (sF T (fun cls d _ H => E cls d H) [] mo mb body)) :
    FnOk P w K mg base (L2.CX P w) (k + 1) f fd ps (spF T n (fnF m body)) := by
  subst hm
  refine F.okX S (fun vs H Q E q => by rw [hn]; exact spF_len q) fun cdv A outer s H vs Q E hr sp => ⟨_, h cdv A outer s H E hr, ?_⟩
  obtain ⟨B, ds, hall, hl, rs, post⟩ := sp
  have hlen := rs.length
  refine ⟨H, B, ds.map some ++ List.replicate (N.length - ds.length) none, [], ⟨B, Core.refl hall, ⟨?_, fun i d h1 _ => ?_, fun i d _ h => by simp at h, fun i j di dj _ _ h => by simp at h⟩, fun _ h => by simp at h⟩, ?_⟩
  · unfold L2.start; simp [hlen]
  · unfold L2.start; rw [← hlen]; exact reps_slot rs _ h1
  · have grow : ∀ {B' : Addr → Prop} {H' : Hp}, Core H B B' H' → ∀ a, B' a → Grow B H H' a := fun {B' H'} c a ha => by
      rcases c.new a ha with h | h
      · exact .inl h
      · exact .inr ⟨h, c.all a ha⟩
    unfold fnF at post
    cases z : body (ds.map some ++ List.replicate (N.length - ds.length) none) with
    | nx e2 =>
      rw [z] at post
      intro σ' H' s'
      obtain ⟨B', c, _, _⟩ := s'
      exact post .non H' c.same (rep_non.mpr rfl)
    | ret d =>
      rw [z] at post
      intro v H' B' c r
      exact post v H' c.same (Rep.mono (grow c) (fun _ _ _ e => e) _ _ r)
    | exc c' fs e2 =>
      rw [z] at post
      intro cls dd σ' H' ⟨B', c, _, x⟩
      exact post cls dd H' c.same (x.sub (grow c))
    | brk e2 => rw [z] at post; exact post.elim
    | cnt e2 => rw [z] at post; exact post.elim
    | bad => rw [z] at post; exact post.elim
end
end Fd

set_option Elab.async false
set_option linter.all false
set_option maxRecDepth 100000
/-! What is walked; comprehensions. -/
namespace Fd
open PySem PySem.Spec PyProof.Rows L2

def seqOf : D → R (List D)
  | .lst ds => .ok ds
  | .tup ds => .ok ds
  | .scr ns => .ok (ns.map .int)
  | _ => .bad
def lstOf : D → R (List D)
  | .lst ds => .ok ds
  | _ => .bad
def iSeq (f : EF) : IF := fun en => (f en).bind seqOf
def rangeD (lo hi : Int) : List D := (List.range (hi - lo).toNat).map fun (i : Nat) => .int (lo + i)
def rgOk (i : Int) : Bool := decide (-(2 ^ 62) ≤ i) && decide (i < 2 ^ 62)
def range1 : D → R (List D)
  | .int j => if rgOk j = true then .ok (rangeD 0 j) else .bad
  | _ => .bad
def range2 : D → D → R (List D)
  | .int i, .int j => if rgOk i && rgOk j then .ok (rangeD i j) else .bad
  | _, _ => .bad
def iRange1 (f : EF) : IF := fun en => (f en).bind range1
def iRange2 (f g : EF) : IF := fun en => (f en).bind fun x => (g en).bind fun y => range2 x y
/-- hi - 1 down to lo -/
def iRevRange1 (f : EF) : IF := fun en => (f en).bind fun x => (range1 x).bind fun ds => .ok ds.reverse
def enumD (ds : List D) : List D := ds.mapIdx fun i d => .tup [.int (i : Nat), d]
def iEnum (f : EF) : IF := fun en => (f en).bind fun x => (lstOf x).bind fun ds => .ok (enumD ds)
def iRev (f : EF) : IF := fun en => (f en).bind fun x => (seqOf x).bind fun ds => .ok ds.reverse
def iStr (f : EF) : IF := fun en => (f en).bind fun x => match x with
  | .str z => .ok (z.cps.toList.map fun c => .str ⟨#[c]⟩)
  | _ => .bad
section
variable {X : Cx} {T : Tab} {W : WX} {ms mo mb : List Nat} {H0 H : Hp} {B0 : Addr → Prop} {en : En} {σ : L2.St} {pend : List (D × V)}
variable {tg e : Expr} {pos : Pos} {f g : EF} {c : CF}

theorem IPost.step {r : R D} {k : D → R (List D)} {Q : It → Hp → Prop} {Q' : VK} (h : IPost T W ms H0 B0 en σ pend (r.bind k) Q)
    (c : ∀ d v H', SR T H0 B0 ms en σ H' ((d, v) :: pend) → IPost T W ms H0 B0 en σ pend (k d) Q → Q' v H') : EPost T W ms H0 B0 en σ pend r Q' := by
  cases r with
  | ok d => exact fun v H' s => c d v H' s h
  | exc c fs => exact h
  | bad => exact h
theorem seq_of {B : Addr → Prop} {d : D} {v : V} {ds : List D} (r : Rep T B H d v) (h : seqOf d = .ok ds) : ∃ a vs, v = .ref a ∧ (SqL T.K H a vs ∨ SqT T.K H a vs) ∧ Reps T B H ds vs := by
  unfold seqOf at h
  split at h <;> cases h
  · obtain ⟨a, vs, rfl, _, h1, rs⟩ := rep_lst.mp r; exact ⟨a, vs, rfl, .inl (SqL.of h1), rs⟩
  · obtain ⟨a, vs, rfl, h1, rs⟩ := rep_tup.mp r; exact ⟨a, vs, rfl, .inr (tupAt h1), rs⟩
  · obtain ⟨a, rfl, h1⟩ := rep_scr.mp r; exact ⟨a, _, rfl, .inl (scrAt h1), Reps.ints⟩
/-- a list or a tuple, walked -/
def wAny (K : PySem.W.Frag) (tl : TE) : TI := fun σ H R => tl σ H fun x H1 => ∃ a, x = .ref a ∧ (((∃ xs, SqL K H1 a xs) ∧ R (Itl K a) H1) ∨ ((∃ xs, SqT K H1 a xs) ∧ R (Itt K a) H1))
theorem pi_any {l : Expr} {tl : TE} (hl : PE X l tl) : PI X tg l (wAny X.K tl) := by
  refine ⟨fun pins s σ H R I h => ?_⟩
  refine thn (hl.run pins s σ H _ I h) fun v s1 ⟨x, H1, I1, r1, q1⟩ => ?_
  obtain ⟨a, e, q⟩ := q1
  subst e
  cases r1
  rcases q with ⟨⟨xs, hq⟩, q⟩ | ⟨⟨xs, hq⟩, q⟩
  · obtain ⟨its, rv, p, hz⟩ := I1.list hq
    refine wpAny_pyIter_list p.isList ?_
    refine ⟨s1.heap.objs.size, [s1.heap.objs.size], _, _, H1, rfl, I1.kept (t' := s1.toks) fun b o e => Heap.get?_push_of_some _ e, turn_list a _, ⟨_, Heap.get?_push_size _ rfl, rfl, rfl⟩, fun b hb => ?_, q⟩
    have e : b = s1.heap.objs.size := by simpa using hb
    subst e
    exact I1.fpOk (Nat.le_refl _) (I1.hok.fresh (Nat.le_refl _))
  · obtain ⟨its, rv, p, hz⟩ := I1.tuple hq
    refine wpAny_pyIter_tuple (show s1.heap.IsTuple a its.toArray from p) ?_
    refine ⟨s1.heap.objs.size, [s1.heap.objs.size], _, _, H1, rfl, I1.kept (t' := s1.toks) fun b o e => Heap.get?_push_of_some _ e, turn_tuple a _, ⟨_, Heap.get?_push_size _ rfl, rfl, rfl⟩, fun b hb => ?_, q⟩
    have e : b = s1.heap.objs.size := by simpa using hb
    subst e
    exact I1.fpOk (Nat.le_refl _) (I1.hok.fresh (Nat.le_refl _))
theorem wlk_lst {d : D} {a : Addr} {ds : List D} (h : ∀ B H, Core H0 B0 B H → Rep T B H d (.ref a) → ∃ vs, SqL T.K H a vs ∧ Reps T B H ds vs) : Wlk T H0 B0 (Itl T.K a) ds [(d, .ref a)] where
  stop := fun B H c p => by
    obtain ⟨vs, hq, rs⟩ := h B H c (p _ List.mem_cons_self)
    exact ⟨vs, hq, by rw [rs.length]; exact Nat.le_refl _⟩
  go := fun i hi B H c p => by
    obtain ⟨vs, hq, rs⟩ := h B H c (p _ List.mem_cons_self)
    have : i < vs.length := by rw [← rs.length]; exact hi
    exact ⟨vs, vs[i], hq, by simp [this]⟩
  yld := fun i d' hd B H x H' c p y => by
    obtain ⟨vs, hq, rs⟩ := h B H c (p _ List.mem_cons_self)
    obtain ⟨rfl, y⟩ := y
    obtain ⟨v, e, r⟩ := rs.get hd
    rw [y vs hq] at e
    cases e
    exact ⟨Same.refl _, r.grow (Same.refl _)⟩
theorem wlk_tup {d : D} {a : Addr} {ds : List D} (h : ∀ B H, Core H0 B0 B H → Rep T B H d (.ref a) → ∃ vs, SqT T.K H a vs ∧ Reps T B H ds vs) : Wlk T H0 B0 (Itt T.K a) ds [(d, .ref a)] where
  stop := fun B H c p => by
    obtain ⟨vs, hq, rs⟩ := h B H c (p _ List.mem_cons_self)
    exact ⟨vs, hq, by rw [rs.length]; exact Nat.le_refl _⟩
  go := fun i hi B H c p => by
    obtain ⟨vs, hq, rs⟩ := h B H c (p _ List.mem_cons_self)
    have : i < vs.length := by rw [← rs.length]; exact hi
    exact ⟨vs, vs[i], hq, by simp [this]⟩
  yld := fun i d' hd B H x H' c p y => by
    obtain ⟨vs, hq, rs⟩ := h B H c (p _ List.mem_cons_self)
    obtain ⟨rfl, y⟩ := y
    obtain ⟨v, e, r⟩ := rs.get hd
    rw [y vs hq] at e
    cases e
    exact ⟨Same.refl _, r.grow (Same.refl _)⟩
theorem seq_lst {B : Addr → Prop} {H : Hp} {ds : List D} {a : Addr} (r : Rep T B H (.lst ds) (.ref a)) : ∃ vs, SqL T.K H a vs ∧ Reps T B H ds vs := by
  obtain ⟨a', vs, e, _, h1, rs⟩ := rep_lst.mp r
  cases e
  exact ⟨vs, SqL.of h1, rs⟩
theorem seq_tup {B : Addr → Prop} {H : Hp} {ds : List D} {a : Addr} (r : Rep T B H (.tup ds) (.ref a)) : ∃ vs, SqT T.K H a vs ∧ Reps T B H ds vs := by
  obtain ⟨a', vs, e, h1, rs⟩ := rep_tup.mp r
  cases e
  exact ⟨vs, tupAt h1, rs⟩
theorem seq_scr {B : Addr → Prop} {H : Hp} {ns : List Int} {a : Addr} (r : Rep T B H (.scr ns) (.ref a)) : ∃ vs, SqL T.K H a vs ∧ Reps T B H (ns.map D.int) vs := by
  obtain ⟨a', e, h1⟩ := rep_scr.mp r
  cases e
  exact ⟨_, scrAt h1, Reps.ints⟩
theorem fi_seq (ha : PE X e (tF T W ms f)) (hK : X.K = T.K := by rfl) : PI X tg e (iF T W ms (iSeq f)) :=
  mI (pi_any ha) fun σ H Q ⟨H0, B0, en, pend, sr, post⟩ => ⟨H0, B0, en, pend, sr, IPost.step post fun d v H' s p => by
    rw [hK]
    obtain ⟨B, c, e, q, r⟩ := one s
    cases d with
    | lst ds =>
      obtain ⟨a, vs, rfl, _, h1, rs⟩ := rep_lst.mp r
      exact ⟨a, rfl, .inl ⟨⟨vs, SqL.of h1⟩, p _ H' [(_, _)] (wlk_lst fun B H c r => seq_lst r) s⟩⟩
    | tup ds =>
      obtain ⟨a, vs, rfl, h1, rs⟩ := rep_tup.mp r
      exact ⟨a, rfl, .inr ⟨⟨vs, tupAt h1⟩, p _ H' [(_, _)] (wlk_tup fun B H c r => seq_tup r) s⟩⟩
    | scr ns =>
      obtain ⟨a, rfl, h1⟩ := rep_scr.mp r
      exact ⟨a, rfl, .inl ⟨⟨_, scrAt h1⟩, p _ H' [(_, _)] (wlk_lst fun B H c r => seq_scr r) s⟩⟩
    | _ => exact p.elim⟩
theorem wlk_range {lo hi : Int} : Wlk T H0 B0 (Itr lo (hi - lo).toNat) (rangeD lo hi) [] where
  stop := fun B H c p => by show (hi - lo).toNat ≤ _; unfold rangeD; simp
  go := fun i hi' B H c p => by
    unfold rangeD at hi'
    rw [List.length_map, List.length_range] at hi'
    exact hi'
  yld := fun i d hd B H x H' c p y => by
    obtain ⟨rfl, rfl⟩ := y
    refine ⟨Same.refl _, ?_⟩
    have hl : i < (hi - lo).toNat := by
      have := (List.getElem?_eq_some_iff.mp hd).1
      unfold rangeD at this
      rw [List.length_map, List.length_range] at this
      exact this
    unfold rangeD at hd
    rw [List.getElem?_map, List.getElem?_range hl] at hd
    cases hd
    exact rep_int.mpr rfl
theorem one_int {d : D} {v : V} {i : Int} (s : SR T H0 B0 ms en σ H ((d, v) :: pend)) (h : d = .int i) : v = .int i := by
  obtain ⟨B, c, e, q, r⟩ := one s
  subst h
  exact rep_int.mp r
theorem rgOk_iff {i : Int} (h : rgOk i = true) : -(2 ^ 62) ≤ i ∧ i < 2 ^ 62 := by
  unfold rgOk at h
  rw [Bool.and_eq_true, decide_eq_true_eq, decide_eq_true_eq] at h
  exact h
theorem fi_range1 {p : Pos} (hm : X.mg "range" = none) (ha : PE X e (tF T W ms f)) (hg : Gl X "range" := by rfl) (hs : starEach [e] X.env = [(false, eval e X.env)] := by rfl) : PI X tg (.Call (.Name "range" p) [e] [] pos) (iF T W ms (iRange1 f)) :=
  mI (pi_range1 hg hm (L2.pa_cons ha L2.pa_nil hs) hs) fun σ H Q ⟨H0, B0, en, pend, sr, post⟩ => ⟨H0, B0, en, pend, sr, IPost.step post fun d v H' s p => by
    cases d with
    | int j =>
      simp only [range1] at p
      split at p
      · rename_i hr
        obtain ⟨h1, h2⟩ := rgOk_iff hr
        refine ⟨j, by rw [one_int s rfl], h1, h2, ?_⟩
        have w := wlk_range (T := T) (H0 := H0) (B0 := B0) (lo := 0) (hi := j)
        rw [Int.sub_zero] at w
        exact p _ H' [] w s.tail
      · exact p.elim
    | _ => exact p.elim⟩
theorem fi_range2 {a b : Expr} {p : Pos} (hm : X.mg "range" = none) (ha : PE X a (tF T W ms f)) (hb : PE X b (tF T W ms g)) (hg : Gl X "range" := by rfl) (hs : starEach [a, b] X.env = [(false, eval a X.env), (false, eval b X.env)] := by rfl) (hs2 : starEach [b] X.env = [(false, eval b X.env)] := by rfl) :
    PI X tg (.Call (.Name "range" p) [a, b] [] pos) (iF T W ms (iRange2 f g)) :=
  mI (pi_range2 hg hm (L2.pa_cons ha (L2.pa_cons hb L2.pa_nil hs2) (by rw [hs, hs2])) hs hs2) fun σ H Q ⟨H0, B0, en, pend, sr, post⟩ => ⟨H0, B0, en, pend, sr, IPost.step post fun d v H' s p => ⟨H0, B0, en, (d, v) :: pend, s, by
    cases q : g en with
    | exc c fs => rw [q] at p; exact p
    | bad => rw [q] at p; exact p.elim
    | ok d2 =>
      rw [q, R.bind_ok] at p
      intro v2 H2 s2
      unfold range2 at p
      split at p
      · split at p
        · rename_i hr
          rw [Bool.and_eq_true] at hr
          obtain ⟨h1, h2⟩ := rgOk_iff hr.1
          obtain ⟨h3, h4⟩ := rgOk_iff hr.2
          exact ⟨_, _, by rw [one_int s2 rfl, one_int s2.tail rfl], ⟨h1, h2, h3, h4⟩, p _ H2 [] wlk_range s2.tail.tail⟩
        · exact p.elim
      · exact p.elim⟩⟩
theorem fi_enum {tpos p : Pos} {elts : List Expr} {kk : Nat} (hm : X.mg "enumerate" = none) (ha : PE X e (tF T W ms f)) (hK : X.K = T.K := by rfl) (hg : Gl X "enumerate" := by rfl) (hs : starEach [e] X.env = [(false, eval e X.env)] := by rfl) :
    PI X (.Tuple elts kk tpos) (.Call (.Name "enumerate" p) [e] [] pos) (iF T W ms (iEnum f)) :=
  mI (pi_enum hg hm (L2.pa_cons ha L2.pa_nil hs) hs) fun σ H Q ⟨H0, B0, en, pend, sr, post⟩ => ⟨H0, B0, en, pend, sr, IPost.step post fun d v H' s p => by
    cases d with
    | lst ds =>
      obtain ⟨B, c, e, q, r⟩ := one s
      obtain ⟨a, vs, rfl, _, h1, rs⟩ := rep_lst.mp r
      refine ⟨a, vs, rfl, by rw [hK]; exact SqL.of h1, p _ H' [(.lst ds, .ref a)] ?_ s⟩
      rw [hK]
      refine ⟨fun B H c p => ?_, fun i hi B H c p => ?_, fun i d' hd B H x H' c p y => ?_⟩
      · obtain ⟨vs, hq, rs⟩ := seq_lst (p _ List.mem_cons_self)
        exact ⟨vs, hq, by unfold enumD; rw [List.length_mapIdx, rs.length]; exact Nat.le_refl _⟩
      · obtain ⟨vs, hq, rs⟩ := seq_lst (p _ List.mem_cons_self)
        have : i < vs.length := by rw [← rs.length]; unfold enumD at hi; simpa using hi
        exact ⟨vs, vs[i], hq, by simp [this]⟩
      · obtain ⟨vs, hq, rs⟩ := seq_lst (p _ List.mem_cons_self)
        obtain ⟨tt, x', rfl, nT, rfl, y⟩ := y
        unfold enumD at hd
        rw [List.getElem?_mapIdx] at hd
        cases q1 : ds[i]? with
        | none => rw [q1] at hd; cases hd
        | some d1 =>
          rw [q1] at hd
          cases hd
          obtain ⟨v1, e1, r1⟩ := rs.get q1
          rw [y vs hq] at e1
          cases e1
          refine ⟨same_upd nT, rep_tup.mpr ⟨tt, _, rfl, .inl ⟨grow_new nT, upd_same⟩, ?_⟩⟩
          exact reps_cons.mpr ⟨_, _, rfl, rep_int.mpr rfl, Reps.one (r1.grow (same_upd nT))⟩
    | _ => exact p.elim⟩
theorem rev_get {α : Type} {xs : List α} {i : Nat} {x : α} (h : xs.reverse[i]? = some x) : i < xs.length ∧ xs[xs.length - 1 - i]? = some x := by
  have hi : i < xs.length := by have := (List.getElem?_eq_some_iff.mp h).1; simpa using this
  refine ⟨hi, ?_⟩
  rw [List.getElem?_reverse hi] at h
  exact h
theorem fi_rev {p : Pos} (hm : X.mg "reversed" = none) (ha : PE X e (tF T W ms f)) (hK : X.K = T.K := by rfl) (hg : Gl X "reversed" := by rfl) (hs : starEach [e] X.env = (false, eval e X.env) :: starEach [] X.env := by rfl) : PI X tg (.Call (.Name "reversed" p) [e] [] pos) (iF T W ms (iRev f)) :=
  mI (RT.pi_revA hg hm ha hs) fun σ H Q ⟨H0, B0, en, pend, sr, post⟩ => ⟨H0, B0, en, pend, sr, IPost.step post fun d v H' s p => by
    rw [hK]
    obtain ⟨B, c, e, q, r⟩ := one s
    have lcase : ∀ {ds : List D} {a : Addr} {vs : List V}, v = .ref a → SqL T.K H' a vs → Reps T B H' ds vs → (∀ B H, Core H0 B0 B H → Rep T B H d (.ref a) → ∃ vs, SqL T.K H a vs ∧ Reps T B H ds vs) → IPost T W ms H0 B0 en σ pend (.ok ds.reverse) Q →
        ∃ (a : Addr) (xs : List V), v = .ref a ∧ ((SqL T.K H' a xs ∧ Q (Itv T.K a xs.length) H') ∨ (SqT T.K H' a xs ∧ Q (RT.ItvT T.K a xs.length) H')) := by
      intro ds a vs hv hq rs hh p
      subst hv
      refine ⟨a, vs, rfl, .inl ⟨hq, p _ H' [(d, .ref a)] ?_ s⟩⟩
      refine ⟨fun B H c p => ?_, fun i hi B H c p => ?_, fun i d' hd B H x H' c p y => ?_⟩
      · show vs.length ≤ ds.reverse.length; rw [List.length_reverse, rs.length]; exact Nat.le_refl _
      · obtain ⟨ws, hq, rs2⟩ := hh B H c (p _ List.mem_cons_self)
        have l1 := rs.length
        have l2 := rs2.length
        have hi' : i < ds.length := by simpa using hi
        have : vs.length - 1 - i < ws.length := by omega
        exact ⟨by omega, ws, ws[vs.length - 1 - i], hq, by simp [this]⟩
      · obtain ⟨ws, hq, rs2⟩ := hh B H c (p _ List.mem_cons_self)
        obtain ⟨rfl, y⟩ := y
        obtain ⟨h1, h2⟩ := rev_get hd
        obtain ⟨v, e, r⟩ := rs2.get h2
        rw [rs.length, y ws hq] at e
        cases e
        exact ⟨Same.refl _, r.grow (Same.refl _)⟩
    have tcase : ∀ {ds : List D} {a : Addr} {vs : List V}, v = .ref a → SqT T.K H' a vs → Reps T B H' ds vs → (∀ B H, Core H0 B0 B H → Rep T B H d (.ref a) → ∃ vs, SqT T.K H a vs ∧ Reps T B H ds vs) → IPost T W ms H0 B0 en σ pend (.ok ds.reverse) Q →
        ∃ (a : Addr) (xs : List V), v = .ref a ∧ ((SqL T.K H' a xs ∧ Q (Itv T.K a xs.length) H') ∨ (SqT T.K H' a xs ∧ Q (RT.ItvT T.K a xs.length) H')) := by
      intro ds a vs hv hq rs hh p
      subst hv
      refine ⟨a, vs, rfl, .inr ⟨hq, p _ H' [(d, .ref a)] ?_ s⟩⟩
      refine ⟨fun B H c p => ?_, fun i hi B H c p => ?_, fun i d' hd B H x H' c p y => ?_⟩
      · show vs.length ≤ ds.reverse.length; rw [List.length_reverse, rs.length]; exact Nat.le_refl _
      · obtain ⟨ws, hq, rs2⟩ := hh B H c (p _ List.mem_cons_self)
        have l1 := rs.length
        have l2 := rs2.length
        have hi' : i < ds.length := by simpa using hi
        have : vs.length - 1 - i < ws.length := by omega
        exact ⟨by omega, ws, ws[vs.length - 1 - i], hq, by simp [this]⟩
      · obtain ⟨ws, hq, rs2⟩ := hh B H c (p _ List.mem_cons_self)
        obtain ⟨rfl, y⟩ := y
        obtain ⟨h1, h2⟩ := rev_get hd
        obtain ⟨v, e, r⟩ := rs2.get h2
        rw [rs.length, y ws hq] at e
        cases e
        exact ⟨Same.refl _, r.grow (Same.refl _)⟩
    cases d with
    | lst ds =>
      obtain ⟨a, vs, hv, _, h1, rs⟩ := rep_lst.mp r
      exact lcase hv (SqL.of h1) rs (fun B H c r => seq_lst r) p
    | tup ds =>
      obtain ⟨a, vs, hv, h1, rs⟩ := rep_tup.mp r
      exact tcase hv (tupAt h1) rs (fun B H c r => seq_tup r) p
    | scr ns =>
      obtain ⟨a, hv, h1⟩ := rep_scr.mp r
      exact lcase hv (scrAt h1) Reps.ints (fun B H c r => seq_scr r) p
    | _ => exact p.elim⟩
theorem fi_revRange1 {p p2 pos2 : Pos} (hm : X.mg "reversed" = none) (hm2 : X.mg "range" = none) (ha : PE X e (tF T W ms f)) (hg : Gl X "reversed" := by rfl) (hg2 : Gl X "range" := by rfl)
    (na : starEach [e] X.env = (false, eval e X.env) :: starEach [] X.env := by rfl) (hs : starEach [.Call (.Name "range" p2) [e] [] pos2] X.env = (false, eval (.Call (.Name "range" p2) [e] [] pos2) X.env) :: starEach [] X.env := by rfl) :
    PI X tg (.Call (.Name "reversed" p) [.Call (.Name "range" p2) [e] [] pos2] [] pos) (iF T W ms (iRevRange1 f)) :=
  mI (pi_revR hg hm (prg_1 hg2 hm2 ha na) hs) fun σ H Q ⟨H0, B0, en, pend, sr, post⟩ => ⟨H0, B0, en, pend, sr, IPost.step post fun d v H' s p => by
    cases d with
    | int j =>
      simp only [range1] at p
      split at p
      · rename_i hr
        obtain ⟨h1, h2⟩ := rgOk_iff hr
        refine ⟨j, by rw [one_int s rfl], by omega, by omega, h1, h2, p _ H' [] ?_ s.tail⟩
        have hl : (rangeD 0 j).length = (j - 0).toNat := by unfold rangeD; simp
        refine ⟨fun B H c p => ?_, fun i hi B H c p => ?_, fun i d' hd B H x H' c p y => ?_⟩
        · show (j - 0).toNat ≤ _; rw [List.length_reverse, hl]; exact Nat.le_refl _
        · show i < (j - 0).toNat; rw [List.length_reverse, hl] at hi; exact hi
        · obtain ⟨rfl, rfl⟩ := y
          refine ⟨Same.refl _, ?_⟩
          obtain ⟨h1, h2⟩ := rev_get hd
          rw [hl] at h1 h2
          unfold rangeD at h2
          rw [List.getElem?_map, List.getElem?_range (by omega)] at h2
          cases h2
          rw [rep_int]
          congr 1
          omega
      · exact p.elim
    | _ => exact p.elim⟩
theorem fi_str (ha : PE X e (tF T W ms f)) : PI X tg e (iF T W ms (iStr f)) :=
  mI (L2.pi_str ha) fun σ H Q ⟨H0, B0, en, pend, sr, post⟩ => ⟨H0, B0, en, pend, sr, IPost.step post fun d v H' s p => by
    cases d with
    | str z =>
      obtain ⟨B, c, e, q, r⟩ := one s
      refine ⟨z, rep_str.mp r, p _ H' [] ?_ s.tail⟩
      refine ⟨fun B H c p => ?_, fun i hi B H c p => ?_, fun i d' hd B H x H' c p y => ?_⟩
      · show z.cps.size ≤ _; simp
      · show i < z.cps.size; simpa using hi
      · obtain ⟨rfl, c1, hc, rfl⟩ := y
        refine ⟨Same.refl _, ?_⟩
        rw [List.getElem?_map, Array.getElem?_toList, hc] at hd
        cases hd
        exact rep_str.mpr rfl
    | _ => exact p.elim⟩
end
end Fd

set_option Elab.async false
set_option linter.all false
set_option maxRecDepth 100000
/-! List comprehensions. -/
namespace Fd
open PySem PySem.Spec PyProof.Rows L2

def wipeD (en : En) : List Nat → En
  | [] => en
  | v :: vs => (wipeD en vs).set v none
def lcL (bo : Bool) (t : TGF) (c : CF) (f : EF) (en : En) : List D → List D → R (List D)
  | [], acc => .ok acc
  | d :: ds, acc => match t d en with
    | none => .bad
    | some en1 => match c en1 with
      | .ok true => match f en1 with
        | .ok y => if acc.length < 16777216 ∧ (bo = true → isFlat y = true) then lcL bo t c f en ds (acc ++ [y]) else .bad
        | _ => .bad
      | .ok false => lcL bo t c f en ds acc
      | _ => .bad
def lcEn (bo : Bool) (ms own : List Nat) (en : En) : En := if bo = true then wipeD en own else wipeD (wipeD en own) ms
def eLc (bo : Bool) (ms own : List Nat) (it : IF) (t : TGF) (c : CF) (f : EF) : EF := fun en => (it en).bind fun ds => (lcL bo t c f (lcEn bo ms own en) ds []).bind fun r => .ok (.lst r)
def cYes : CF := fun _ => .ok true
def Wn : WX := fun _ _ _ _ => False

theorem wipeD_get {i : Nat} {d : D} : ∀ {vs : List Nat} {en : En}, (wipeD en vs)[i]? = some (some d) → en[i]? = some (some d) ∧ i ∉ vs
  | [], en, h => ⟨h, by simp⟩
  | v :: vs, en, h => by
    unfold wipeD at h
    by_cases hi : v = i
    · subst hi
      by_cases hv : v < (wipeD en vs).length
      · rw [List.getElem?_set_self hv] at h; cases h
      · rw [List.getElem?_eq_none (by simpa using hv)] at h; cases h
    · rw [List.getElem?_set_ne hi] at h
      obtain ⟨h1, h2⟩ := wipeD_get h
      exact ⟨h1, by simp only [List.mem_cons, not_or]; exact ⟨fun e => hi e.symm, h2⟩⟩
theorem wipeD_length (en : En) : ∀ vs : List Nat, (wipeD en vs).length = en.length
  | [] => rfl
  | v :: vs => by unfold wipeD; rw [List.length_set, wipeD_length en vs]
theorem wipe_in {σ : L2.St} {i : Nat} : ∀ {vs : List Nat}, i ∈ vs → (wipe σ vs)[i]? = if i < σ.length then some none else none
  | [], h => by simp at h
  | v :: vs, h => by
    unfold wipe
    by_cases hi : v = i
    · subst hi
      by_cases hv : v < σ.length
      · rw [List.getElem?_set_self (by rw [wipe_length]; exact hv), if_pos hv]
      · rw [List.getElem?_eq_none (by rw [List.length_set, wipe_length]; omega), if_neg hv]
    · rw [List.getElem?_set_ne hi]
      refine wipe_in ?_
      rcases List.mem_cons.mp h with z | z
      · exact absurd z.symm hi
      · exact z
theorem wipe_but {σ σ2 : L2.St} {vs js : List Nat} (h : But js (wipe σ vs) σ2) (hj : ∀ j ∈ js, j ∈ vs) : wipe σ2 vs = wipe σ vs := by
  apply List.ext_getElem?
  intro i
  have hl : σ2.length = σ.length := by rw [h.1, wipe_length]
  by_cases hi : i ∈ vs
  · rw [wipe_in hi, wipe_in hi, hl]
  · rw [wipe_out hi, h.2 i fun z => hi (hj i z)]
section
variable {X : Cx} {T : Tab} {W : WX} {ms mo mb : List Nat} {H0 H : Hp} {B0 : Addr → Prop} {en : En} {σ : L2.St} {pend : List (D × V)}
variable {tg e elt iter : Expr} {ifs : List Expr} {pos : Pos} {f g : EF} {c : CF} {it : IF} {t : TGF} {js : List Nat}

theorem SRO.grow {d : D} {v : V} {H' : Hp} (s : SRO T H0 B0 ms en σ H d v pend) (sm : Same H H') : SRO T H0 B0 ms en σ H' d v pend := by
  obtain ⟨B, c, e, p, o, a⟩ := s
  exact ⟨_, c.grow sm, e.grow sm, fun z hz => (p z hz).grow sm, o.grow sm, a⟩
theorem lcL_exc {bo : Bool} {en : En} {c' : String} {fs : List (Str × D)} : ∀ {ds acc : List D}, lcL bo t c f en ds acc ≠ .exc c' fs
  | [], acc, h => by unfold lcL at h; cases h
  | d :: ds, acc, h => by
    unfold lcL at h
    split at h
    · cases h
    · split at h
      · split at h
        · split at h
          · exact lcL_exc h
          · cases h
        · cases h
      · exact lcL_exc h
      · cases h
theorem SRO.app {B : Addr → Prop} {D : Addr} {acc : List Fd.D} {vs : List V} {y : Fd.D} {v : V} (cr : Core H0 B0 B H) (eo : EnOk T H0 B ms en σ H) (p : ∀ p ∈ pend, Rep T B H p.1 p.2) (nb : ¬ B D) (n0 : H0 D = none) (hD : H D = some (.lst vs)) (r : Reps T B H acc vs)
    (ap : ∀ j dj, j ∈ ms → en[j]? = some (some dj) → σ[j]? ≠ some (some (.ref D))) (ry : Rep T B H y v) : SRO T H0 B0 ms en σ (upd H D (.lst (vs ++ [v]))) (.lst (acc ++ [y])) (.ref D) pend := by
  have hH : ∀ b o', B b → H b = some o' → upd H D (.lst (vs ++ [v])) b = some o' := fun b o' hb h => by
    have hba : b ≠ D := fun z => nb (z ▸ hb)
    rw [upd_ne hba]; exact h
  refine ⟨B, ⟨fun b o' h => ?_, cr.sub, cr.new, fun b h z => ?_⟩, ⟨eo.len, fun j dj h1 h2 => ?_, fun j dj h1 h2 => ?_, eo.apart⟩, fun q hq => Rep.mono (fun _ h => h) hH _ _ (p q hq), ⟨D, rfl, nb, n0, _, upd_same, Reps.mono (fun _ h => h) hH _ _ (r.append (Reps.one ry))⟩, ap⟩
  · rw [upd_ne (ne_of_none h n0)]; exact cr.same b o' h
  · have hba : b ≠ D := fun z => nb (z ▸ h)
    rw [upd_ne hba] at z
    exact cr.all b h z
  · obtain ⟨v, e1, r⟩ := eo.rep j dj h1 h2
    exact ⟨v, e1, Rep.mono (fun _ h => h) hH _ _ r⟩
  · obtain ⟨v, e1, b, rfl, nb', n0', o'⟩ := eo.own j dj h1 h2
    have hba : b ≠ D := fun z => ap j dj h2 h1 (by rw [e1, z])
    refine ⟨_, e1, b, rfl, nb', n0', ?_⟩
    cases dj with
    | lst ds => obtain ⟨vs, e, r⟩ := o'; exact ⟨vs, by rw [upd_ne hba]; exact e, Reps.mono (fun _ h => h) hH _ _ r⟩
    | dK ds => obtain ⟨vs, e, r⟩ := o'; exact ⟨vs, by rw [upd_ne hba]; exact e, RepK.mono (fun _ h => h) hH _ _ r⟩
    | dT ds => obtain ⟨vs, e, r⟩ := o'; exact ⟨vs, by rw [upd_ne hba]; exact e, RepT.mono (fun _ h => h) hH _ _ r⟩
    | obj c fs => obtain ⟨dx, vs, e, r⟩ := o'; exact ⟨dx, vs, by rw [upd_ne hba]; exact e, RepF.mono (fun _ h => h) hH _ _ r⟩
    | _ => exact o'.elim
/-- what a block sees: bo: everything, frozen; else what is not owned -/
theorem lc_sees {own : List Nat} (bo : Bool) {B : Addr → Prop} (cr : Core H0 B0 B H) (eo : EnOk T H0 B ms en σ H) : ∃ Bx, (∀ a, B a → Bx a) ∧ (∀ a, Bx a → H a ≠ none) ∧ EnOk T H Bx [] (lcEn bo ms own en) (wipe σ own) H ∧ (bo = false → Bx = B) := by
  cases bo with
  | true =>
    obtain ⟨B1, h1, h2, h3, e1⟩ := SR.ice cr eo
    refine ⟨B1, h1, h3, ⟨?_, fun i d hd _ => ?_, fun i d _ h => by simp at h, fun i j di dj _ _ h => by simp at h⟩, fun h => by cases h⟩
    · unfold lcEn; rw [if_pos rfl, wipeD_length, wipe_length, eo.len]
    · unfold lcEn at hd
      rw [if_pos rfl] at hd
      obtain ⟨q1, q2⟩ := wipeD_get hd
      obtain ⟨v, e2, r⟩ := e1.rep i d q1 (by simp)
      exact ⟨v, by rw [wipe_out q2]; exact e2, r⟩
  | false =>
    refine ⟨B, fun _ h => h, cr.all, ⟨?_, fun i d hd _ => ?_, fun i d _ h => by simp at h, fun i j di dj _ _ h => by simp at h⟩, fun _ => rfl⟩
    · unfold lcEn; rw [if_neg (by decide), wipeD_length, wipeD_length, wipe_length, eo.len]
    · unfold lcEn at hd
      rw [if_neg (by decide)] at hd
      obtain ⟨q1, q2⟩ := wipeD_get hd
      obtain ⟨q3, q4⟩ := wipeD_get q1
      obtain ⟨v, e2, r⟩ := eo.rep i d q3 q2
      exact ⟨v, by rw [wipe_out q4]; exact e2, r⟩
theorem lc_step {own : List Nat} {bo : Bool} (hj : ∀ j ∈ js, j ∈ own) {Q : VK} (h : nF T W ms (eLc bo ms own it t c f) σ H Q) : tLc (iF T W ms it) (gF T [] js t) (cF T Wn [] c) (tF T Wn [] f) own σ H Q := by
  obtain ⟨H0, B0, en, pend, sr, post⟩ := h
  refine ⟨H0, B0, en, pend, sr, ?_⟩
  unfold eLc at post
  cases q : it en with
  | exc c fs => rw [q] at post; exact post
  | bad => rw [q] at post; exact post.elim
  | ok ds =>
    rw [q, R.bind_ok] at post
    intro J H1 pend' wk s1 D nD
    cases z : lcL bo t c f (lcEn bo ms own en) ds [] with
    | exc c fs => exact (lcL_exc z).elim
    | bad => rw [z] at post; exact post.elim
    | ok res =>
      rw [z, R.bind_ok] at post
      have s0 : SRO T H0 B0 ms en σ (upd H1 D (.lst [])) (.lst []) (.ref D) (pend' ++ pend) := s1.nilL.own nD
      refine ⟨fun i m H => m = ds.length - i ∧ i ≤ ds.length ∧ ∃ acc, SRO T H0 B0 ms en σ H (.lst acc) (.ref D) (pend' ++ pend) ∧ lcL bo t c f (lcEn bo ms own en) (ds.drop i) acc = .ok res, ⟨ds.length, by simp, Nat.zero_le _, [], s0, by simpa using z⟩, ?_⟩
      rintro i m H ⟨rfl, hle, acc, s, hr⟩
      obtain ⟨B, cr, eo, p, own1, ap⟩ := id s
      have pp : ∀ z ∈ pend', Rep T B H z.1 z.2 := fun z hz => p z (List.mem_append_left _ hz)
      by_cases hlt : i < ds.length
      · refine .inr ⟨wk.go i hlt B H cr pp, fun H' => ∃ acc', SRO T H0 B0 ms en σ H' (.lst acc') (.ref D) (pend' ++ pend) ∧ lcL bo t c f (lcEn bo ms own en) (ds.drop (i + 1)) acc' = .ok res, fun H' ⟨acc', s', h'⟩ => ⟨ds.length - (i + 1), by omega, rfl, hlt, acc', s', h'⟩, fun x H' y => ?_⟩
        have hd : ds[i]? = some ds[i] := by simp [hlt]
        obtain ⟨sm, rx⟩ := wk.yld i _ hd B H x H' cr pp y
        have s2 := s.grow sm
        have cr2 := cr.grow sm
        have eo2 := eo.grow sm
        obtain ⟨Bx, x1, x2, x3, x4⟩ := lc_sees (own := own) bo cr2 eo2
        rw [List.drop_eq_getElem_cons hlt] at hr
        unfold lcL at hr
        split at hr
        · cases hr
        · rename_i en1 h1
          refine ⟨H', Bx, lcEn bo ms own en, [], ds[i], ⟨Bx, Core.refl x2, x3, fun z hz => ?_⟩, en1, h1, fun σ2 H2 s3 but => ⟨wipe_but but hj, H', Bx, en1, [], s3, ?_⟩⟩
          · rcases List.mem_cons.mp hz with rfl | hz
            · exact Rep.mono x1 (fun _ _ _ e => e) _ _ rx
            · simp at hz
          · cases qc : c en1 with
            | exc c' fs => rw [qc] at hr; cases hr
            | bad => rw [qc] at hr; cases hr
            | ok b =>
              rw [qc] at hr
              intro H3 s4
              have sm3 : Same H' H3 := by obtain ⟨B3, c3, _⟩ := s4; exact c3.same
              cases b with
              | false =>
                rw [if_neg (by decide)]
                exact ⟨acc, s2.grow sm3, hr⟩
              | true =>
                rw [if_pos rfl]
                refine ⟨H', Bx, en1, [], s4, ?_⟩
                simp only at hr
                cases qf : f en1 with
                | exc c' fs => rw [qf] at hr; cases hr
                | bad => rw [qf] at hr; cases hr
                | ok yd =>
                  rw [qf] at hr
                  intro v H4 s5
                  obtain ⟨B4, c4, e4, p4⟩ := s5
                  have ry := p4 (yd, v) List.mem_cons_self
                  have s6 := s2.grow c4.same
                  simp only at hr
                  split at hr
                  · rename_i hl
                    obtain ⟨a6, ha, nb6, n06, vs6, h6, r6⟩ := (own1.grow sm).grow c4.same
                    cases ha
                    have cr6 := cr2.grow c4.same
                    have ry6 : Rep T (Grow (Grow B H H') H' H4) H4 yd v := by
                      cases bo with
                      | true => exact (flat_of (hl.2 rfl) ry).rep
                      | false =>
                        refine Rep.mono (fun a h => ?_) (fun _ _ _ e => e) _ _ ry
                        have hb := x4 rfl
                        subst hb
                        rcases c4.new a h with h2 | h2
                        · exact .inl h2
                        · exact .inr ⟨h2, c4.all a h⟩
                    refine ⟨vs6, h6, by rw [sizeLine_eq, ← r6.length]; exact hl.1, acc ++ [yd], ?_, hr⟩
                    exact SRO.app cr6 (eo2.grow c4.same) (fun z hz => ((p z hz).grow sm).grow c4.same) nb6 n06 h6 r6 ap ry6
                  · cases hr
      · have e0 : i = ds.length := by omega
        subst e0
        refine .inl ⟨wk.stop B H cr pp, ?_⟩
        rw [List.drop_length] at hr
        cases hr
        obtain ⟨B, c, e, p, o, a⟩ := s
        exact post (.ref D) H ⟨B, c, e, fun z hz => p z (List.mem_append_right _ hz), o, a⟩
theorem SRO.melt {d : D} {v : V} (s : SRO T H0 B0 ms en σ H d v pend) : SR T H0 B0 ms en σ H ((d, v) :: pend) := by
  obtain ⟨B, cr, eo, p, ⟨a, rfl, nb, n0, o⟩, ap⟩ := s
  let B1 : Addr → Prop := fun b => B b ∨ b = a
  have hB : ∀ a, B a → B1 a := fun _ h => .inl h
  have hH : ∀ a o, B a → H a = some o → H a = some o := fun _ _ _ e => e
  refine ⟨B1, ⟨cr.same, fun b h => .inl (cr.sub b h), fun b h => ?_, fun b h => ?_⟩, ⟨eo.len, fun j dj h1 h2 => ?_, fun j dj h1 h2 => ?_, eo.apart⟩, fun q hq => ?_⟩
  · rcases h with h | rfl
    · exact cr.new b h
    · exact .inr n0
  · rcases h with h | rfl
    · exact cr.all b h
    · exact o.there
  · obtain ⟨v, e1, r⟩ := eo.rep j dj h1 h2
    exact ⟨v, e1, Rep.mono hB hH _ _ r⟩
  · obtain ⟨v, e1, b, rfl, nb', n0', o'⟩ := eo.own j dj h1 h2
    have hba : b ≠ a := fun z => ap j dj h2 h1 (by rw [e1, z])
    refine ⟨_, e1, b, rfl, fun z => z.elim nb' hba, n0', ?_⟩
    cases dj with
    | lst ds => obtain ⟨vs, e, r⟩ := o'; exact ⟨vs, e, Reps.mono hB hH _ _ r⟩
    | dK ds => obtain ⟨vs, e, r⟩ := o'; exact ⟨vs, e, RepK.mono hB hH _ _ r⟩
    | dT ds => obtain ⟨vs, e, r⟩ := o'; exact ⟨vs, e, RepT.mono hB hH _ _ r⟩
    | obj c fs => obtain ⟨dx, vs, e, r⟩ := o'; exact ⟨dx, vs, e, RepF.mono hB hH _ _ r⟩
    | _ => exact o'.elim
  · rcases List.mem_cons.mp hq with rfl | hq
    · have hb : B1 a := .inr rfl
      cases d with
      | lst ds => obtain ⟨vs, e, r⟩ := o; exact rep_lst.mpr ⟨a, vs, rfl, hb, e, Reps.mono hB hH _ _ r⟩
      | dK ds => obtain ⟨vs, e, r⟩ := o; exact rep_dK.mpr ⟨a, vs, rfl, hb, e, RepK.mono hB hH _ _ r⟩
      | dT ds => obtain ⟨vs, e, r⟩ := o; exact rep_dT.mpr ⟨a, vs, rfl, hb, e, RepT.mono hB hH _ _ r⟩
      | obj c fs => obtain ⟨dx, vs, e, r⟩ := o; exact rep_obj.mpr ⟨a, dx, vs, rfl, hb, e, RepF.mono hB hH _ _ r⟩
      | _ => exact o.elim
    · exact Rep.mono hB hH _ _ (p q hq)
theorem n_step {σ : L2.St} {H : Hp} {Q : VK} (h : tF T W ms f σ H Q) : nF T W ms f σ H Q := by
  obtain ⟨H0, B0, en, pend, sr, post⟩ := h
  refine ⟨H0, B0, en, pend, sr, ?_⟩
  cases q : f en with
  | ok d => rw [q] at post; exact fun v H' s => post v H' s.melt
  | exc c fs => rw [q] at post; exact post
  | bad => rw [q] at post; exact post
/-- what is new may be used as any value -/
theorem fe_new (h : PE X e (nF T W ms f)) : PE X e (tF T W ms f) := mE h fun σ H Q => n_step
/-- no test; one test -/
theorem fp_nil : PTs X [] (cF T W ms cYes) := ⟨fun pins s σ H Q I ⟨H0, B0, en, pend, sr, post⟩ => pts_nil.run pins s σ H Q I (post H sr)⟩
theorem fp_one {k : Expr} (h : PT X k (cF T W ms c)) : PTs X [k] (cF T W ms c) := pts_one h
theorem fn_lc {own : List (Str × Nat)} {scope : Scope} (bo : Bool) (hN : X.N.Nodup) (hi : PI X tg iter (iF T W ms it)) (ok : blkC X.N X.env.scope scope own = true)
    (hg : ∀ (s : Shared) (H : Hp) (C : Addr) (cl : List (Str × Addr)) (fp : List Addr), PG (X.blk s H scope (compEnvC scope cl C X.env) fp) tg (gF T [] js t)) (ht : ∀ (s : Shared) (H : Hp) (C : Addr) (cl : List (Str × Addr)) (fp : List Addr), PTs (X.blk s H scope (compEnvC scope cl C X.env) fp) ifs (cF T Wn [] c))
    (he : ∀ (s : Shared) (H : Hp) (C : Addr) (cl : List (Str × Addr)) (fp : List Addr), PE (X.blk s H scope (compEnvC scope cl C X.env) fp) elt (tF T Wn [] f)) (hj : ∀ j ∈ js, j ∈ own.map (·.2) := by decide) (hc : X.calm = true := by rfl) (hs : ∀ x, foldedSetIterable iter X.env x = pure x := by intro _; rfl) :
    PE X (.ListComp elt [⟨tg, iter, ifs, 0⟩] scope pos) (nF T W ms (eLc bo ms (own.map (·.2)) it t c f)) := mE (pe_lc hc hN hi (blkOk_by ok) hg ht he hs) fun σ H Q h => lc_step hj h
theorem fs_setLc {i : Nat} {y : Str} {py spos : Pos} {own : List (Str × Nat)} {scope : Scope} (bo : Bool) (hN : X.N.Nodup) (hi : PI X tg iter (iF T W ms it)) (ok : blkC X.N X.env.scope scope own = true)
    (hg : ∀ (s : Shared) (H : Hp) (C : Addr) (cl : List (Str × Addr)) (fp : List Addr), PG (X.blk s H scope (compEnvC scope cl C X.env) fp) tg (gF T [] js t)) (ht : ∀ (s : Shared) (H : Hp) (C : Addr) (cl : List (Str × Addr)) (fp : List Addr), PTs (X.blk s H scope (compEnvC scope cl C X.env) fp) ifs (cF T Wn [] c))
    (he : ∀ (s : Shared) (H : Hp) (C : Addr) (cl : List (Str × Addr)) (fp : List Addr), PE (X.blk s H scope (compEnvC scope cl C X.env) fp) elt (tF T Wn [] f)) (hsw : swapsWith (.ListComp elt [⟨tg, iter, ifs, 0⟩] scope pos) (some (.Name y py)) spos.line X.env = pure true)
    (hy : X.N[i]? = some y := by rfl) (hyl : X.env.scope.names.lookup y = some .local := by rfl) (hj : ∀ j ∈ js, j ∈ own.map (·.2) := by decide) (hc : X.calm = true := by rfl) (hs : ∀ x, foldedSetIterable iter X.env x = pure x := by intro _; rfl) :
    PS X (.Assign [.Name y py] (.ListComp elt [⟨tg, iter, ifs, 0⟩] scope pos) spos) (sF T W ms (i :: rm i ms) mb (sSet i (eLc bo ms (own.map (·.2)) it t c f))) :=
  mS (ps_setLc hc hN hy hyl hsw hi (blkOk_by ok) hg ht he hs) fun Dn σ H ⟨H0, B0, en, pend, sr, post⟩ => lc_step hj ⟨H0, B0, en, pend, sr, SPost.liftN post fun d v H' s p => p _ H' s.put⟩
end
end Fd

set_option Elab.async false
set_option linter.all false
set_option maxRecDepth 100000
/-! Built-ins. -/
namespace Fd
open PySem PySem.Spec PyProof.Rows L2

theorem reps1 {T : Tab} {B : Addr → Prop} {H : Hp} {d : D} {vs : List V} (r : Reps T B H [d] vs) : ∃ v, vs = [v] ∧ Rep T B H d v := by
  obtain ⟨v, ws, rfl, rv, rs⟩ := reps_cons.mp r
  rw [reps_nil.mp rs]
  exact ⟨v, rfl, rv⟩
theorem reps2 {T : Tab} {B : Addr → Prop} {H : Hp} {d d' : D} {vs : List V} (r : Reps T B H [d, d'] vs) : ∃ v v', vs = [v, v'] ∧ Rep T B H d v ∧ Rep T B H d' v' := by
  obtain ⟨v, ws, rfl, rv, rs⟩ := reps_cons.mp r
  obtain ⟨v', rfl, rv'⟩ := reps1 rs
  exact ⟨v, v', rfl, rv, rv'⟩
theorem SRL.back {T : Tab} {ms : List Nat} {H0 H : Hp} {B0 : Addr → Prop} {en : En} {σ : L2.St} {pend : List (D × V)} {ds : List D} {vs : List V} {d : D} {v : V} (s : SRL T ms H0 B0 en σ H ds vs pend) (f : Flat d v) : SR T H0 B0 ms en σ H ((d, v) :: pend) := s.toSR.flat f
/-- a new list or the like from a built-in -/
def CallSemN (T : Tab) (r : List V → Hp → VK → Prop) (F : List D → R D) : Prop := ∀ H0 B0 ms en σ H pend ds vs d Q, SRL T ms H0 B0 en σ H ds vs pend → F ds = .ok d → (∀ v H', SRO T H0 B0 ms en σ H' d v pend → Q v H') → r vs H Q
section
variable {X : Cx} {T : Tab} {W : WX} {ms : List Nat} {H0 H : Hp} {B0 : Addr → Prop} {en : En} {σ : L2.St} {pend : List (D × V)}
variable {e : Expr} {es : List Expr} {pos : Pos} {f g : EF} {fa : En → R (List D)}
theorem NPost.stepA {r : R (List D)} {k : List D → R D} {Q : VK} {Q' : List V → Hp → Prop} (h : NPost T W ms H0 B0 en σ pend (r.bind k) Q)
    (c : ∀ d v H', SRL T ms H0 B0 en σ H' d v pend → NPost T W ms H0 B0 en σ pend (k d) Q → Q' v H') : APost T W ms H0 B0 en σ pend r Q' := by
  cases r with
  | ok d => exact fun v H' s => c d v H' s h
  | exc c fs => exact h
  | bad => exact h
theorem NPost.step {r : R D} {k : D → R D} {Q : VK} {Q' : VK} (h : NPost T W ms H0 B0 en σ pend (r.bind k) Q)
    (c : ∀ d v H', SR T H0 B0 ms en σ H' ((d, v) :: pend) → NPost T W ms H0 B0 en σ pend (k d) Q → Q' v H') : EPost T W ms H0 B0 en σ pend r Q' := by
  cases r with
  | ok d => exact fun v H' s => c d v H' s h
  | exc c fs => exact h
  | bad => exact h
theorem fn_callB {id : String} {x : Str} {p : Pos} {r : List V → Hp → VK → Prop} {F : List D → R D} (hc : CallR X (.builtin id) r) (hs : CallSemN T r F) (hn : NoExcL F) (hm : X.mg x = none) (hv : bootBuiltins x = some (.builtin id))
    (ha : PA X (e :: es) (aF T W ms fa)) (hg : Gl X x := by rfl) (hnm : x ≠ "__name__" := by decide) (hdb : (x == ("__debug__" : Str)) = false := by decide) (he : starEach (e :: es) X.env = (false, eval e X.env) :: starEach es X.env := by rfl) (hpl : (backTo pos (starEach es X.env)).any (·.1) = false := by rfl) :
    PE X (.Call (.Name x p) (e :: es) [] pos) (nF T W ms (eCall F fa)) :=
  mE (pe_callB hc hg hm hv ha hnm hdb he hpl) fun σ H Q ⟨H0, B0, en, pend, sr, post⟩ => ⟨H0, B0, en, pend, sr, NPost.stepA post fun ds vs H' s p => by
    cases q : F ds with
    | ok d => rw [q] at p; exact hs H0 B0 ms en σ H' pend ds vs d Q s q p
    | exc c fs => exact (hn _ _ _ q).elim
    | bad => rw [q] at p; exact p.elim⟩
theorem fn_callTy {id : String} {x : Str} {p : Pos} {r : List V → Hp → VK → Prop} {F : List D → R D} (hc : CallR X (.type id) r) (hs : CallSemN T r F) (hn : NoExcL F) (hm : X.mg x = none) (hv : bootBuiltins x = some (.type id))
    (ha : PA X (e :: es) (aF T W ms fa)) (hg : Gl X x := by rfl) (hnm : x ≠ "__name__" := by decide) (hdb : (x == ("__debug__" : Str)) = false := by decide) (he : starEach (e :: es) X.env = (false, eval e X.env) :: starEach es X.env := by rfl) (hpl : (backTo pos (starEach es X.env)).any (·.1) = false := by rfl) :
    PE X (.Call (.Name x p) (e :: es) [] pos) (nF T W ms (eCall F fa)) :=
  mE (pe_callTy hc hg hm hv ha hnm hdb he hpl) fun σ H Q ⟨H0, B0, en, pend, sr, post⟩ => ⟨H0, B0, en, pend, sr, NPost.stepA post fun ds vs H' s p => by
    cases q : F ds with
    | ok d => rw [q] at p; exact hs H0 B0 ms en σ H' pend ds vs d Q s q p
    | exc c fs => exact (hn _ _ _ q).elim
    | bad => rw [q] at p; exact p.elim⟩

/-! ### len -/
def dLen : List D → R D
  | [.lst ds] => .ok (.int ds.length)
  | [.tup ds] => .ok (.int ds.length)
  | [.scr ds] => .ok (.int ds.length)
  | [.str z] => if z.length ≤ 16777216 then .ok (.int z.length) else .bad
  | _ => .bad
theorem dLen_exc : NoExcL dLen := by intro x c fs h; unfold dLen at h; (repeat' split at h) <;> cases h
theorem sLen : CallSem T (fun xs H Q => ∃ x n, xs = [x] ∧ LenV T.K x H n ∧ Q (.int n) H) dLen := by
  intro H0 B0 ms en σ H pend ds vs d Q s h q
  obtain ⟨B, c, e, p, r⟩ := id s
  unfold dLen at h
  split at h
  · cases h
    obtain ⟨v, rfl, rv⟩ := reps1 r
    obtain ⟨a, vs, rfl, _, h1, rs⟩ := rep_lst.mp rv
    exact ⟨_, _, rfl, .inl ⟨vs, SqL.of h1, rs.length⟩, q _ H (s.back rfl)⟩
  · cases h
    obtain ⟨v, rfl, rv⟩ := reps1 r
    obtain ⟨a, vs, rfl, h1, rs⟩ := rep_tup.mp rv
    exact ⟨_, _, rfl, .inr ⟨vs, tupAt h1, rs.length⟩, q _ H (s.back rfl)⟩
  · cases h
    obtain ⟨v, rfl, rv⟩ := reps1 r
    obtain ⟨a, rfl, h1⟩ := rep_scr.mp rv
    exact ⟨_, _, rfl, .inl ⟨_, scrAt h1, by simp⟩, q _ H (s.back rfl)⟩
  · split at h
    · rename_i hl
      cases h
      obtain ⟨v, rfl, rv⟩ := reps1 r
      rw [rep_str.mp rv]
      exact ⟨_, _, rfl, ⟨fits_line hl, rfl⟩, q _ H (s.back rfl)⟩
    · cases h
  · cases h
theorem fe_len {p : Pos} (hm : X.mg "len" = none) (ha : PE X e (tF T W ms f)) (hK : X.K = T.K := by rfl) (hg : Gl X "len" := by rfl) (he : starEach [e] X.env = (false, eval e X.env) :: starEach [] X.env := by rfl) :
    PE X (.Call (.Name "len" p) [e] [] pos) (tF T W ms (eCall dLen (aCons f aNil))) := fe_callB call_len (by rw [hK]; exact sLen) dLen_exc hm PySem.boot_len (fa_cons ha fa_nil he) hg (by decide) (by decide) he

/-! ### int, abs -/
def dInt : List D → R D
  | [.int i] => .ok (.int i)
  | [.bl k] => .ok (.int (if k then 1 else 0))
  | _ => .bad
def dAbs : List D → R D
  | [.int i] => .ok (.int (if i < 0 then -i else i))
  | _ => .bad
theorem dInt_exc : NoExcL dInt := by intro x c fs h; unfold dInt at h; (repeat' split at h) <;> cases h
theorem dAbs_exc : NoExcL dAbs := by intro x c fs h; unfold dAbs at h; (repeat' split at h) <;> cases h
theorem sInt : CallSem T (fun xs H Q => (∃ i, xs = [.int i] ∧ Q (.int i) H) ∨ ∃ k, xs = [.bl k] ∧ Q (.int (if k then 1 else 0)) H) dInt := by
  intro H0 B0 ms en σ H pend ds vs d Q s h q
  obtain ⟨B, c, e, p, r⟩ := id s
  unfold dInt at h
  split at h <;> cases h
  · obtain ⟨v, rfl, rv⟩ := reps1 r
    rw [rep_int.mp rv]
    exact .inl ⟨_, rfl, q _ H (s.back rfl)⟩
  · obtain ⟨v, rfl, rv⟩ := reps1 r
    rw [rep_bl.mp rv]
    exact .inr ⟨_, rfl, q _ H (s.back rfl)⟩
theorem sAbs : CallSem T (fun xs H Q => ∃ i, xs = [.int i] ∧ Q (.int (if i < 0 then -i else i)) H) dAbs := by
  intro H0 B0 ms en σ H pend ds vs d Q s h q
  obtain ⟨B, c, e, p, r⟩ := id s
  unfold dAbs at h
  split at h <;> cases h
  obtain ⟨v, rfl, rv⟩ := reps1 r
  rw [rep_int.mp rv]
  exact ⟨_, rfl, q _ H (s.back rfl)⟩
theorem fe_intc {p : Pos} (hm : X.mg "int" = none) (ha : PE X e (tF T W ms f)) (hg : Gl X "int" := by rfl) (he : starEach [e] X.env = (false, eval e X.env) :: starEach [] X.env := by rfl) :
    PE X (.Call (.Name "int" p) [e] [] pos) (tF T W ms (eCall dInt (aCons f aNil))) := fe_callTy call_int1 sInt dInt_exc hm (by decide +kernel) (fa_cons ha fa_nil he) hg (by decide) (by decide) he
theorem fe_abs {p : Pos} (hm : X.mg "abs" = none) (ha : PE X e (tF T W ms f)) (hg : Gl X "abs" := by rfl) (he : starEach [e] X.env = (false, eval e X.env) :: starEach [] X.env := by rfl) :
    PE X (.Call (.Name "abs" p) [e] [] pos) (tF T W ms (eCall dAbs (aCons f aNil))) := fe_callB call_abs sAbs dAbs_exc hm (by decide +kernel) (fa_cons ha fa_nil he) hg (by decide) (by decide) he

/-! ### list, tuple -/
def dListOf : List D → R D
  | [.lst ds] => .ok (.lst ds)
  | [.tup ds] => .ok (.lst ds)
  | [.scr ns] => .ok (.lst (ns.map .int))
  | _ => .bad
theorem dListOf_exc : NoExcL dListOf := by intro x c fs h; unfold dListOf at h; (repeat' split at h) <;> cases h
theorem SRL.own' {ds ds' : List D} {vs vs' : List V} {p : Addr} (s : SRL T ms H0 B0 en σ H ds vs pend) (n : H p = none) (k : ∀ B, Reps T B H ds vs → Reps T B H ds' vs') : SRO T H0 B0 ms en σ (upd H p (.lst vs')) (.lst ds') (.ref p) pend := by
  obtain ⟨B, c, e, q, r⟩ := s
  exact SRL.own ⟨B, c, e, q, k B r⟩ n
theorem SRL.tup' {ds ds' : List D} {vs vs' : List V} {p : Addr} (s : SRL T ms H0 B0 en σ H ds vs pend) (n : H p = none) (k : ∀ B, Reps T B H ds vs → Reps T B H ds' vs') : SR T H0 B0 ms en σ (upd H p (.tup vs')) ((.tup ds', .ref p) :: pend) := by
  obtain ⟨B, c, e, q, r⟩ := s
  exact SRL.tup ⟨B, c, e, q, k B r⟩ n
theorem sListOf : CallSemN T (fun xs H Q => ∃ p ys, xs = [.ref p] ∧ (SqL T.K H p ys ∨ SqT T.K H p ys) ∧ ∀ l, H l = none → Q (.ref l) (upd H l (.lst ys))) dListOf := by
  intro H0 B0 ms en σ H pend ds vs d Q s h q
  obtain ⟨B, c, e, p, r⟩ := id s
  unfold dListOf at h
  split at h <;> cases h
  · obtain ⟨v, rfl, rv⟩ := reps1 r
    obtain ⟨a, vs, rfl, _, h1, rs⟩ := rep_lst.mp rv
    exact ⟨_, _, rfl, .inl (SqL.of h1), fun l n => q _ _ (SRL.own ⟨B, c, e, p, rs⟩ n)⟩
  · obtain ⟨v, rfl, rv⟩ := reps1 r
    obtain ⟨a, vs, rfl, h1, rs⟩ := rep_tup.mp rv
    exact ⟨_, _, rfl, .inr (tupAt h1), fun l n => q _ _ (SRL.own ⟨B, c, e, p, rs⟩ n)⟩
  · obtain ⟨v, rfl, rv⟩ := reps1 r
    obtain ⟨a, rfl, h1⟩ := rep_scr.mp rv
    exact ⟨_, _, rfl, .inl (scrAt h1), fun l n => q _ _ (SRL.own ⟨B, c, e, p, Reps.ints⟩ n)⟩
theorem fn_list {p : Pos} (hm : X.mg "list" = none) (ha : PE X e (tF T W ms f)) (hK : X.K = T.K := by rfl) (hg : Gl X "list" := by rfl) (he : starEach [e] X.env = (false, eval e X.env) :: starEach [] X.env := by rfl) :
    PE X (.Call (.Name "list" p) [e] [] pos) (nF T W ms (eCall dListOf (aCons f aNil))) := fn_callTy call_list_of (by rw [hK]; exact sListOf) dListOf_exc hm (by decide +kernel) (fa_cons ha fa_nil he) hg (by decide) (by decide) he
def dTupOf : List D → R D
  | [.lst ds] => .ok (.tup ds)
  | [.tup ds] => .ok (.tup ds)
  | _ => .bad
theorem dTupOf_exc : NoExcL dTupOf := by intro x c fs h; unfold dTupOf at h; (repeat' split at h) <;> cases h
theorem sTupOf : CallSem T (fun xs H Q => ∃ p ys, xs = [.ref p] ∧ ((SqL T.K H p ys ∧ ∀ l, H l = none → Q (.ref l) (upd H l (.tup ys))) ∨ (SqT T.K H p ys ∧ Q (.ref p) H))) dTupOf := by
  intro H0 B0 ms en σ H pend ds vs d Q s h q
  obtain ⟨B, c, e, p, r⟩ := id s
  unfold dTupOf at h
  split at h <;> cases h
  · obtain ⟨v, rfl, rv⟩ := reps1 r
    obtain ⟨a, vs, rfl, _, h1, rs⟩ := rep_lst.mp rv
    exact ⟨_, _, rfl, .inl ⟨SqL.of h1, fun l n => q _ _ (SRL.tup ⟨B, c, e, p, rs⟩ n)⟩⟩
  · obtain ⟨v, rfl, rv⟩ := reps1 r
    obtain ⟨a, vs, rfl, h1, rs⟩ := rep_tup.mp rv
    exact ⟨_, _, rfl, .inr ⟨tupAt h1, q _ H ⟨B, c, e, fun z hz => by rcases List.mem_cons.mp hz with rfl | hz; exact rv; exact p z hz⟩⟩⟩
theorem fe_tuple {p : Pos} (hm : X.mg "tuple" = none) (ha : PE X e (tF T W ms f)) (hK : X.K = T.K := by rfl) (hg : Gl X "tuple" := by rfl) (he : starEach [e] X.env = (false, eval e X.env) :: starEach [] X.env := by rfl) :
    PE X (.Call (.Name "tuple" p) [e] [] pos) (tF T W ms (eCall dTupOf (aCons f aNil))) := fe_callTy call_tuple_of (by rw [hK]; exact sTupOf) dTupOf_exc hm (by decide +kernel) (fa_cons ha fa_nil he) hg (by decide) (by decide) he

/-! ### list(range(..)), tuple(range(..)) -/
def small24 (i : Int) : Bool := decide (-16777216 ≤ i) && decide (i ≤ 16777216)
def rangeL (i j : Int) : R (List D) := if small24 i && small24 j && decide ((j - i).toNat ≤ 16777216) then .ok (rangeD i j) else .bad
def rg1 (x : D) : R (List D) := match x with
  | .int j => rangeL 0 j
  | _ => .bad
def rg2 (x y : D) : R (List D) := match x, y with
  | .int i, .int j => rangeL i j
  | _, _ => .bad
def eLstRg1 (f : EF) : EF := fun en => (f en).bind fun x => (rg1 x).bind fun ds => .ok (.lst ds)
def eTupRg1 (f : EF) : EF := fun en => (f en).bind fun x => (rg1 x).bind fun ds => .ok (.tup ds)
def eLstRg2 (f g : EF) : EF := fun en => (f en).bind fun x => (g en).bind fun y => (rg2 x y).bind fun ds => .ok (.lst ds)
def eTupRg2 (f g : EF) : EF := fun en => (f en).bind fun x => (g en).bind fun y => (rg2 x y).bind fun ds => .ok (.tup ds)
theorem rgV_rep {B : Addr → Prop} {i j : Int} : Reps T B H (rangeD i j) (rgV i j) := by
  rw [reps_iff]
  refine ⟨by unfold rangeD rgV; simp, fun k d v e1 e2 => ?_⟩
  unfold rangeD at e1
  unfold rgV at e2
  rw [List.getElem?_map] at e1 e2
  cases q : (List.range (j - i).toNat)[k]? with
  | none => rw [q] at e1; cases e1
  | some n => rw [q] at e1 e2; cases e1; cases e2; exact rep_int.mpr rfl
theorem rangeL_ok {i j : Int} {ds : List D} (h : rangeL i j = .ok ds) : RgOk i j ∧ ds = rangeD i j := by
  unfold rangeL at h
  split at h
  · rename_i hc
    cases h
    simp only [Bool.and_eq_true, small24, decide_eq_true_eq] at hc
    exact ⟨⟨by omega, by omega, by omega, by omega, by omega⟩, rfl⟩
  · cases h
theorem rangeL_exc {i j : Int} {c : String} {fs : List (Str × D)} : rangeL i j ≠ .exc c fs := by
  intro h
  unfold rangeL at h
  split at h <;> cases h
theorem fn_listRg1 {a : Expr} {p p2 pos2 : Pos} (hc : X.calm = true) (hm : X.mg "list" = none) (hm2 : X.mg "range" = none) (ha : PE X a (tF T W ms f)) (hg : Gl X "list" := by rfl) (hg2 : Gl X "range" := by rfl) (na : starEach [a] X.env = (false, eval a X.env) :: starEach [] X.env := by rfl)
    (na2 : starEach [.Call (.Name "range" p2) [a] [] pos2] X.env = (false, eval (.Call (.Name "range" p2) [a] [] pos2) X.env) :: starEach [] X.env := by rfl) :
    PE X (.Call (.Name "list" p) [.Call (.Name "range" p2) [a] [] pos2] [] pos) (nF T W ms (eLstRg1 f)) :=
  mE (pe_listRg hc hg hm (prg_1 hg2 hm2 ha na) na2) fun σ H Q ⟨H0, B0, en, pend, sr, post⟩ => ⟨H0, B0, en, pend, sr, NPost.step post fun d v H' s p => by
    cases d with
    | int j =>
      simp only [rg1] at p
      refine ⟨j, one_int s rfl, ?_⟩
      cases q : rangeL 0 j with
      | ok ds =>
        rw [q, R.bind_ok] at p
        obtain ⟨h1, rfl⟩ := rangeL_ok q
        exact ⟨h1, fun l n => p _ _ (s.tail.nilL.own' n fun B _ => rgV_rep)⟩
      | exc c fs => exact (rangeL_exc q).elim
      | bad => rw [q] at p; exact p.elim
    | _ => exact p.elim⟩
theorem fe_tupRg1 {a : Expr} {p p2 pos2 : Pos} (hc : X.calm = true) (hm : X.mg "tuple" = none) (hm2 : X.mg "range" = none) (ha : PE X a (tF T W ms f)) (hg : Gl X "tuple" := by rfl) (hg2 : Gl X "range" := by rfl) (na : starEach [a] X.env = (false, eval a X.env) :: starEach [] X.env := by rfl)
    (na2 : starEach [.Call (.Name "range" p2) [a] [] pos2] X.env = (false, eval (.Call (.Name "range" p2) [a] [] pos2) X.env) :: starEach [] X.env := by rfl) :
    PE X (.Call (.Name "tuple" p) [.Call (.Name "range" p2) [a] [] pos2] [] pos) (tF T W ms (eTupRg1 f)) :=
  mE (pe_tupRg hc hg hm (prg_1 hg2 hm2 ha na) na2) fun σ H Q ⟨H0, B0, en, pend, sr, post⟩ => ⟨H0, B0, en, pend, sr, EPost.step post fun d v H' s p => by
    cases d with
    | int j =>
      simp only [rg1] at p
      refine ⟨j, one_int s rfl, ?_⟩
      cases q : rangeL 0 j with
      | ok ds =>
        rw [q, R.bind_ok] at p
        obtain ⟨h1, rfl⟩ := rangeL_ok q
        exact ⟨h1, fun l n => p _ _ (s.nilL.tup' n fun B _ => rgV_rep)⟩
      | exc c fs => exact (rangeL_exc q).elim
      | bad => rw [q] at p; exact p.elim
    | _ => exact p.elim⟩
theorem fn_listRg2 {a b : Expr} {p p2 pos2 : Pos} (hc : X.calm = true) (hm : X.mg "list" = none) (hm2 : X.mg "range" = none) (ha : PE X a (tF T W ms f)) (hb : PE X b (tF T W ms g)) (hg : Gl X "list" := by rfl) (hg2 : Gl X "range" := by rfl)
    (na : starEach [a, b] X.env = (false, eval a X.env) :: starEach [b] X.env := by rfl) (nb : starEach [b] X.env = (false, eval b X.env) :: starEach [] X.env := by rfl) (hpl : (backTo pos2 (starEach [b] X.env)).any (·.1) = false := by rfl)
    (na2 : starEach [.Call (.Name "range" p2) [a, b] [] pos2] X.env = (false, eval (.Call (.Name "range" p2) [a, b] [] pos2) X.env) :: starEach [] X.env := by rfl) :
    PE X (.Call (.Name "list" p) [.Call (.Name "range" p2) [a, b] [] pos2] [] pos) (nF T W ms (eLstRg2 f g)) :=
  mE (pe_listRg hc hg hm (prg_2 hg2 hm2 ha hb na nb hpl) na2) fun σ H Q ⟨H0, B0, en, pend, sr, post⟩ => ⟨H0, B0, en, pend, sr, NPost.step post fun d v H' s p => ⟨H0, B0, en, (d, v) :: pend, s, by
    cases q2 : g en with
    | exc c fs => rw [q2] at p; exact p
    | bad => rw [q2] at p; exact p.elim
    | ok d2 =>
      rw [q2, R.bind_ok] at p
      intro v2 H2 s2
      unfold rg2 at p
      split at p
      · rename_i i j
        refine ⟨i, j, one_int s2.tail rfl, one_int s2 rfl, ?_⟩
        cases q : rangeL i j with
        | ok ds =>
          rw [q, R.bind_ok] at p
          obtain ⟨h1, rfl⟩ := rangeL_ok q
          exact ⟨h1, fun l n => p _ _ (s2.tail.tail.nilL.own' n fun B _ => rgV_rep)⟩
        | exc c fs => exact (rangeL_exc q).elim
        | bad => rw [q] at p; exact p.elim
      · exact p.elim⟩⟩
theorem fe_tupRg2 {a b : Expr} {p p2 pos2 : Pos} (hc : X.calm = true) (hm : X.mg "tuple" = none) (hm2 : X.mg "range" = none) (ha : PE X a (tF T W ms f)) (hb : PE X b (tF T W ms g)) (hg : Gl X "tuple" := by rfl) (hg2 : Gl X "range" := by rfl)
    (na : starEach [a, b] X.env = (false, eval a X.env) :: starEach [b] X.env := by rfl) (nb : starEach [b] X.env = (false, eval b X.env) :: starEach [] X.env := by rfl) (hpl : (backTo pos2 (starEach [b] X.env)).any (·.1) = false := by rfl)
    (na2 : starEach [.Call (.Name "range" p2) [a, b] [] pos2] X.env = (false, eval (.Call (.Name "range" p2) [a, b] [] pos2) X.env) :: starEach [] X.env := by rfl) :
    PE X (.Call (.Name "tuple" p) [.Call (.Name "range" p2) [a, b] [] pos2] [] pos) (tF T W ms (eTupRg2 f g)) :=
  mE (pe_tupRg hc hg hm (prg_2 hg2 hm2 ha hb na nb hpl) na2) fun σ H Q ⟨H0, B0, en, pend, sr, post⟩ => ⟨H0, B0, en, pend, sr, EPost.step post fun d v H' s p => ⟨H0, B0, en, (d, v) :: pend, s, by
    cases q2 : g en with
    | exc c fs => rw [q2] at p; exact p
    | bad => rw [q2] at p; exact p.elim
    | ok d2 =>
      rw [q2, R.bind_ok] at p
      intro v2 H2 s2
      unfold rg2 at p
      split at p
      · rename_i i j
        refine ⟨i, j, one_int s2.tail rfl, one_int s2 rfl, ?_⟩
        cases q : rangeL i j with
        | ok ds =>
          rw [q, R.bind_ok] at p
          obtain ⟨h1, rfl⟩ := rangeL_ok q
          exact ⟨h1, fun l n => p _ _ ((s2.nilL.tup' n fun B _ => rgV_rep).sub fun z hz => by simp only [List.mem_cons] at hz ⊢; rcases hz with h | h <;> simp [h])⟩
        | exc c fs => exact (rangeL_exc q).elim
        | bad => rw [q] at p; exact p.elim
      · exact p.elim⟩⟩

/-! ### max, min of two -/
def dMax2 : List D → R D
  | [.int i, .int j] => .ok (.int (if j > i then j else i))
  | _ => .bad
def dMin2 : List D → R D
  | [.int i, .int j] => .ok (.int (if j < i then j else i))
  | _ => .bad
theorem dMax2_exc : NoExcL dMax2 := by intro x c fs h; unfold dMax2 at h; (repeat' split at h) <;> cases h
theorem dMin2_exc : NoExcL dMin2 := by intro x c fs h; unfold dMin2 at h; (repeat' split at h) <;> cases h
theorem fe_max2 {a b : Expr} {p : Pos} (hc : X.calm = true) (hm : X.mg "max" = none) (ha : PE X a (tF T W ms f)) (hb : PE X b (tF T W ms g)) (hg : Gl X "max" := by rfl) (he : starEach [a, b] X.env = (false, eval a X.env) :: starEach [b] X.env := by rfl) (he2 : starEach [b] X.env = (false, eval b X.env) :: starEach [] X.env := by rfl)
    (hpl : (backTo pos (starEach [b] X.env)).any (·.1) = false := by rfl) :
    PE X (.Call (.Name "max" p) [a, b] [] pos) (tF T W ms (eCall dMax2 (aCons f (aCons g aNil)))) :=
  fe_callB (call_max2 hc) (fun H0 B0 ms en σ H pend ds vs d Q s h q => by
    obtain ⟨B, c, e, p, r⟩ := id s
    unfold dMax2 at h
    split at h <;> cases h
    obtain ⟨v, v', rfl, r1, r2⟩ := reps2 r
    rw [rep_int.mp r1, rep_int.mp r2]
    exact ⟨_, _, rfl, q _ H (s.back rfl)⟩) dMax2_exc hm (by decide +kernel) (fa_cons ha (fa_cons hb fa_nil he2) he) hg (by decide) (by decide) he hpl
theorem fe_min2 {a b : Expr} {p : Pos} (hc : X.calm = true) (hm : X.mg "min" = none) (ha : PE X a (tF T W ms f)) (hb : PE X b (tF T W ms g)) (hg : Gl X "min" := by rfl) (he : starEach [a, b] X.env = (false, eval a X.env) :: starEach [b] X.env := by rfl) (he2 : starEach [b] X.env = (false, eval b X.env) :: starEach [] X.env := by rfl)
    (hpl : (backTo pos (starEach [b] X.env)).any (·.1) = false := by rfl) :
    PE X (.Call (.Name "min" p) [a, b] [] pos) (tF T W ms (eCall dMin2 (aCons f (aCons g aNil)))) :=
  fe_callB (call_min2 hc) (fun H0 B0 ms en σ H pend ds vs d Q s h q => by
    obtain ⟨B, c, e, p, r⟩ := id s
    unfold dMin2 at h
    split at h <;> cases h
    obtain ⟨v, v', rfl, r1, r2⟩ := reps2 r
    rw [rep_int.mp r1, rep_int.mp r2]
    exact ⟨_, _, rfl, q _ H (s.back rfl)⟩) dMin2_exc hm (by decide +kernel) (fa_cons ha (fa_cons hb fa_nil he2) he) hg (by decide) (by decide) he hpl
end
end Fd

set_option Elab.async false
set_option linter.all false
set_option maxRecDepth 100000
/-! in; min of data; sorted; isinstance. -/
namespace Fd
open PySem PySem.Spec PyProof.Rows L2

/-! ### in -/
def eqFl : D → D → Bool
  | .non, .non => true
  | .bl a, .bl b => a == b
  | .bl a, .int b => (if a then 1 else 0) == b
  | .int a, .bl b => a == (if b then 1 else 0)
  | .int a, .int b => a == b
  | .str a, .str b => a == b
  | _, _ => false
def inSeq (x : D) (ds : List D) : Option Bool := if isFlat x && ds.all isFlat then some (ds.any fun y => eqFl y x) else none
def inData (x : D) (ds : List D) : Option Bool := match toPy x, toPyAll ds with
  | some d, some es => if SeqAt.shaped d && SeqAt.shaped (.list es) then some (es.any fun z => PyData.eqv z d) else none
  | _, _ => none
def inStr (x z : Str) : Option Bool := match x.cps.toList with
  | [c] => some (decide (c ∈ z.cps.toList))
  | _ => none
def inD (x y : D) : Option Bool := match y with
  | .lst ds => match inSeq x ds with
    | some b => some b
    | none => inData x ds
  | .tup ds => inSeq x ds
  | .str z => match x with
    | .str c => inStr c z
    | _ => none
  | _ => none
def dIn (x y : D) : R D := match inD x y with
  | some b => .ok (.bl b)
  | none => .bad
def dNotIn (x y : D) : R D := match inD x y with
  | some b => .ok (.bl (!b))
  | none => .bad
theorem dIn_exc : NoExc2 dIn := by intro x y c fs h; unfold dIn at h; split at h <;> cases h
theorem dNotIn_exc : NoExc2 dNotIn := by intro x y c fs h; unfold dNotIn at h; split at h <;> cases h
section
variable {T : Tab} {B : Addr → Prop} {H : Hp}
theorem flatV_of {d : D} {v : V} (h : isFlat d = true) (r : Rep T B H d v) : flatV v = true := by
  cases d <;> simp [isFlat] at h <;> simp only [Rep] at r <;> subst r <;> rfl
theorem eqFl_of {d d' : D} {v v' : V} (h : isFlat d = true) (h' : isFlat d' = true) (r : Rep T B H d v) (r' : Rep T B H d' v') : eqV v v' = eqFl d d' := by
  cases d <;> simp [isFlat] at h <;> cases d' <;> simp [isFlat] at h' <;> simp only [Rep] at r r' <;> subst r <;> subst r' <;> rfl
theorem allFlat {ds : List D} {vs : List V} (r : Reps T B H ds vs) (h : ds.all isFlat = true) : vs.all flatV = true := by
  induction ds generalizing vs with
  | nil => rw [reps_nil.mp r]; rfl
  | cons d ds ih =>
    obtain ⟨v, ws, rfl, rv, rs⟩ := reps_cons.mp r
    rw [List.all_cons, Bool.and_eq_true] at h ⊢
    exact ⟨flatV_of h.1 rv, ih rs h.2⟩
theorem anyFlat {ds : List D} {vs : List V} {x : D} {v : V} (r : Reps T B H ds vs) (h : ds.all isFlat = true) (hx : isFlat x = true) (rx : Rep T B H x v) : inV v vs = ds.any fun y => eqFl y x := by
  unfold inV
  induction ds generalizing vs with
  | nil => rw [reps_nil.mp r]; rfl
  | cons d ds ih =>
    obtain ⟨w, ws, rfl, rv, rs⟩ := reps_cons.mp r
    rw [List.all_cons, Bool.and_eq_true] at h
    rw [List.any_cons, List.any_cons, ih rs h.2, eqFl_of h.1 hx rv rx]
theorem inSeq_ok {x : D} {ds : List D} {b : Bool} {vs : List V} {v : V} (h : inSeq x ds = some b) (r : Reps T B H ds vs) (rx : Rep T B H x v) : flatV v = true ∧ vs.all flatV = true ∧ inV v vs = b := by
  unfold inSeq at h
  split at h
  · rename_i hc
    cases h
    rw [Bool.and_eq_true] at hc
    exact ⟨flatV_of hc.1 rx, allFlat r hc.2, anyFlat r hc.2 hc.1 rx⟩
  · cases h
theorem inData_ok {x : D} {ds : List D} {b : Bool} {vs : List V} {v : V} (h : inData x ds = some b) (r : Reps T B H ds vs) (rx : Rep T B H x v) :
    ∃ d es, Dp T.K H v d ∧ DpAll T.K H vs es ∧ SeqAt.shaped d = true ∧ SeqAt.shaped (.list es) = true ∧ (es.any fun z => PyData.eqv z d) = b := by
  unfold inData at h
  split at h
  · rename_i d es h1 h2
    split at h
    · rename_i hc
      cases h
      rw [Bool.and_eq_true] at hc
      exact ⟨d, es, Rep.dp _ _ _ rx h1, Reps.dp _ _ _ r h2, hc.1, hc.2, rfl⟩
    · cases h
  · cases h
theorem inStr_ok {x z : Str} {b : Bool} (h : inStr x z = some b) : ∃ c, x = ⟨#[c]⟩ ∧ decide (c ∈ z.cps.toList) = b := by
  unfold inStr at h
  split at h
  · rename_i c hc
    cases h
    refine ⟨c, ?_, rfl⟩
    cases x with
    | mk cps =>
      have : cps = #[c] := by
        apply Array.toList_inj.mp
        exact hc
      rw [this]
  · cases h
end
section
variable {X : Cx} {T : Tab} {W : WX} {ms : List Nat} {a b : Expr} {pos : Pos} {f g : EF} {k : Nat}
theorem sIn : BinSem T (fun x y H Q => rIn T.K false x y H Q ∨ (rInD T.K x y H Q ∨ (∃ (c : Nat) (z : Str), x = .str ⟨#[c]⟩ ∧ y = .str z ∧ Q (.bl (decide (c ∈ z.cps.toList))) H))) dIn := by
  intro H0 B0 ms en σ H pend dx x dy y d Q s h q
  obtain ⟨B, c, e, p, r1, r2⟩ := two s
  unfold dIn at h
  split at h
  · rename_i b hb
    cases h
    unfold inD at hb
    split at hb
    · obtain ⟨a, vs, rfl, _, h1, rs⟩ := rep_lst.mp r2
      split at hb
      · rename_i hs
        cases hb
        obtain ⟨h2, h3, h4⟩ := inSeq_ok hs rs r1
        refine .inl ⟨a, vs, rfl, .inl (SqL.of h1), h2, h3, ?_⟩
        rw [if_neg (by decide), h4]
        exact q _ H (s.flat rfl)
      · obtain ⟨d, es, h2, h3, h4, h5, h6⟩ := inData_ok hb rs r1
        refine .inr (.inl ⟨d, es, h2, .lst (SqL.of h1) h3, h4, h5, ?_⟩)
        rw [h6]
        exact q _ H (s.flat rfl)
    · obtain ⟨a, vs, rfl, h1, rs⟩ := rep_tup.mp r2
      obtain ⟨h2, h3, h4⟩ := inSeq_ok hb rs r1
      refine .inl ⟨a, vs, rfl, .inr (tupAt h1), h2, h3, ?_⟩
      rw [if_neg (by decide), h4]
      exact q _ H (s.flat rfl)
    · split at hb
      · obtain ⟨c, rfl, h2⟩ := inStr_ok hb
        refine .inr (.inr ⟨c, _, rep_str.mp r1, rep_str.mp r2, ?_⟩)
        rw [h2]
        exact q _ H (s.flat rfl)
      · cases hb
    · cases hb
  · cases h
theorem sNotIn : BinSem T (fun x y H Q => rIn T.K true x y H Q ∨ (rNotInD T.K x y H Q ∨ (∃ (c : Nat) (z : Str), x = .str ⟨#[c]⟩ ∧ y = .str z ∧ Q (.bl (!decide (c ∈ z.cps.toList))) H))) dNotIn := by
  intro H0 B0 ms en σ H pend dx x dy y d Q s h q
  obtain ⟨B, c, e, p, r1, r2⟩ := two s
  unfold dNotIn at h
  split at h
  · rename_i b hb
    cases h
    unfold inD at hb
    split at hb
    · obtain ⟨a, vs, rfl, _, h1, rs⟩ := rep_lst.mp r2
      split at hb
      · rename_i hs
        cases hb
        obtain ⟨h2, h3, h4⟩ := inSeq_ok hs rs r1
        refine .inl ⟨a, vs, rfl, .inl (SqL.of h1), h2, h3, ?_⟩
        rw [if_pos rfl, h4]
        exact q _ H (s.flat rfl)
      · obtain ⟨d, es, h2, h3, h4, h5, h6⟩ := inData_ok hb rs r1
        refine .inr (.inl ⟨d, es, h2, .lst (SqL.of h1) h3, h4, h5, ?_⟩)
        rw [h6]
        exact q _ H (s.flat rfl)
    · obtain ⟨a, vs, rfl, h1, rs⟩ := rep_tup.mp r2
      obtain ⟨h2, h3, h4⟩ := inSeq_ok hb rs r1
      refine .inl ⟨a, vs, rfl, .inr (tupAt h1), h2, h3, ?_⟩
      rw [if_pos rfl, h4]
      exact q _ H (s.flat rfl)
    · split at hb
      · obtain ⟨c, rfl, h2⟩ := inStr_ok hb
        refine .inr (.inr ⟨c, _, rep_str.mp r1, rep_str.mp r2, ?_⟩)
        rw [h2]
        exact q _ H (s.flat rfl)
      · cases hb
    · cases hb
  · cases h
theorem room65 (hr : Room k X.A) : X.A.units + 65 < cLine := by have := hr.un; omega
theorem fe_in (hr : Room k X.A) (ha : PE X a (tF T W ms f)) (hb : PE X b (tF T W ms g)) (hK : X.K = T.K := by rfl) (hm : behindInMarks .In b = false := by rfl) : PE X (.Compare a [.In] [b] pos) (tF T W ms (eB2 dIn f g)) :=
  fe_cmp (op_in_seq.or ((op_inD (room65 hr)).or op_in_sign)) (by rw [hK]; exact sIn) dIn_exc ha hb hm
theorem ft_in (hr : Room k X.A) (ha : PE X a (tF T W ms f)) (hb : PE X b (tF T W ms g)) (hK : X.K = T.K := by rfl) (hm : behindInMarks .In b = false := by rfl) : PT X (.Compare a [.In] [b] pos) (cF T W ms (cBl (eB2 dIn f g))) :=
  ft_cmp (op_in_seq.or ((op_inD (room65 hr)).or op_in_sign)) (by rw [hK]; exact sIn) dIn_exc ha hb hm
theorem fe_notIn (hr : Room k X.A) (ha : PE X a (tF T W ms f)) (hb : PE X b (tF T W ms g)) (hK : X.K = T.K := by rfl) (hm : behindInMarks .NotIn b = false := by rfl) : PE X (.Compare a [.NotIn] [b] pos) (tF T W ms (eB2 dNotIn f g)) :=
  fe_cmp (op_notIn_seq.or ((op_notInD (room65 hr)).or op_notIn_sign)) (by rw [hK]; exact sNotIn) dNotIn_exc ha hb hm
theorem ft_notIn (hr : Room k X.A) (ha : PE X a (tF T W ms f)) (hb : PE X b (tF T W ms g)) (hK : X.K = T.K := by rfl) (hm : behindInMarks .NotIn b = false := by rfl) : PT X (.Compare a [.NotIn] [b] pos) (cF T W ms (cBl (eB2 dNotIn f g))) :=
  ft_cmp (op_notIn_seq.or ((op_notInD (room65 hr)).or op_notIn_sign)) (by rw [hK]; exact sNotIn) dNotIn_exc ha hb hm
end

/-! ### min of a list of data -/
mutual
def fromPy : PyData → D
  | .none => .non
  | .bool b => .bl b
  | .int i => .int i
  | .str x => .str x
  | .list xs => .lst (fromPyAll xs)
  | .tuple xs => .tup (fromPyAll xs)
  | .dict _ => .non
def fromPyAll : List PyData → List D
  | [] => []
  | x :: xs => fromPy x :: fromPyAll xs
end
mutual
theorem from_to : ∀ (d : D) (p : PyData), toPy d = some p → fromPy p = d
  | .non, p, h => by simp only [toPy] at h; cases h; rfl
  | .bl b, p, h => by simp only [toPy] at h; cases h; rfl
  | .int b, p, h => by simp only [toPy] at h; cases h; rfl
  | .str b, p, h => by simp only [toPy] at h; cases h; rfl
  | .lst ds, p, h => by
    simp only [toPy] at h
    obtain ⟨ps, e, rfl⟩ := Option.map_eq_some_iff.mp h
    simp only [fromPy]
    rw [fromAll_to ds ps e]
  | .tup ds, p, h => by
    simp only [toPy] at h
    obtain ⟨ps, e, rfl⟩ := Option.map_eq_some_iff.mp h
    simp only [fromPy]
    rw [fromAll_to ds ps e]
  | .scr _, p, h => by simp only [toPy] at h; cases h
  | .dK _, p, h => by simp only [toPy] at h; cases h
  | .dT _, p, h => by simp only [toPy] at h; cases h
  | .set _, p, h => by simp only [toPy] at h; cases h
  | .obj _ _, p, h => by simp only [toPy] at h; cases h
theorem fromAll_to : ∀ (ds : List D) (ps : List PyData), toPyAll ds = some ps → fromPyAll ps = ds
  | [], ps, h => by simp only [toPyAll] at h; cases h; rfl
  | d :: ds, ps, h => by
    simp only [toPyAll] at h
    cases h1 : toPy d with
    | none => rw [h1] at h; cases h
    | some p1 =>
      cases h2 : toPyAll ds with
      | none => rw [h1, h2] at h; cases h
      | some ps1 =>
        rw [h1, h2] at h
        cases h
        simp only [fromPyAll]
        rw [from_to d p1 h1, fromAll_to ds ps1 h2]
end
theorem toPyAll_get : ∀ {ds : List D} {ps : List PyData}, toPyAll ds = some ps → ∀ {i : Nat} {d : D}, ds[i]? = some d → ∃ p, ps[i]? = some p ∧ toPy d = some p
  | [], ps, h, i, d, e => by simp at e
  | d0 :: ds, ps, h, i, d, e => by
    simp only [toPyAll] at h
    cases h1 : toPy d0 with
    | none => rw [h1] at h; cases h
    | some p1 =>
      cases h2 : toPyAll ds with
      | none => rw [h1, h2] at h; cases h
      | some ps1 =>
        rw [h1, h2] at h
        cases h
        cases i with
        | zero => simp at e; subst e; exact ⟨p1, rfl, h1⟩
        | succ i => exact toPyAll_get h2 (i := i) (by simpa using e)
def alikeOk (ps : List PyData) : Bool := ps.all fun x => (ps.all fun y => PySem.W.alike x y) && !PySem.W.alike x .none
theorem alikeOk_all {ps : List PyData} (h : alikeOk ps = true) : PySem.W.AlikeAll ps := by
  unfold alikeOk at h
  rw [List.all_eq_true] at h
  refine ⟨fun x hx y hy => ?_, fun x hx z => ?_⟩
  · have := h x hx
    rw [Bool.and_eq_true, List.all_eq_true] at this
    exact this.1 y hy
  · have := h x hx
    rw [Bool.and_eq_true] at this
    have t2 := this.2
    rw [z, show PySem.W.alike .none .none = true from by rw [PySem.W.alike]] at t2
    exact absurd t2 (by decide)
def dMinL : List D → R D
  | [.lst ds] => match toPyAll ds with
    | some (p :: ps) => if alikeOk (p :: ps) && decide (PyData.depthAll (p :: ps) ≤ 64) then .ok (fromPy (PySem.W.minD p ps)) else .bad
    | _ => .bad
  | _ => .bad
theorem dMinL_exc : NoExcL dMinL := by intro x c fs h; unfold dMinL at h; (repeat' split at h) <;> cases h
def rMinData (K : PySem.W.Frag) : List V → Hp → VK → Prop := fun vs H Q => ∃ (a : Addr) (xs : List V) (p : PyData) (ps : List PyData), vs = [V.ref a] ∧ SqL K H a xs ∧ DpAll K H xs (p :: ps) ∧ PySem.W.AlikeAll (p :: ps) ∧ PyData.depthAll (p :: ps) ≤ 64 ∧
  ∀ (i : Nat) x, xs[i]? = some x → (p :: ps)[i]? = some (PySem.W.minD p ps) → Q x H
theorem minD_mem (p : PyData) (ps : List PyData) : PySem.W.minD p ps ∈ p :: ps := by
  unfold PySem.W.minD
  induction ps generalizing p with
  | nil => exact List.mem_cons_self
  | cons q ps ih =>
    rw [List.foldl_cons]
    split
    · exact List.mem_cons_of_mem _ (ih q)
    · rcases List.mem_cons.mp (ih p) with h | h
      · rw [h]; exact List.mem_cons_self
      · exact List.mem_cons_of_mem _ (List.mem_cons_of_mem _ h)
theorem dpAll_get {K : PySem.W.Frag} {H : Hp} : ∀ {vs : List V} {ps : List PyData}, DpAll K H vs ps → ∀ {i : Nat} {v : V}, vs[i]? = some v → ∃ p, ps[i]? = some p ∧ Dp K H v p
  | _, _, .nil, i, v, h => by simp at h
  | _, _, .cons r rs, 0, v, h => by simp at h; subst h; exact ⟨_, rfl, r⟩
  | _, _, .cons r rs, i + 1, v, h => dpAll_get rs (i := i) (by simpa using h)
section
variable {X : Cx} {T : Tab} {W : WX} {ms : List Nat} {e : Expr} {pos : Pos} {f g : EF} {k : Nat}
theorem cr_minData (hc : X.calm = true) (hr : Room k X.A) : CallR X (.builtin "min") (rMinData X.K) := by
  intro pins s σ H vs us Q I r h
  obtain ⟨a, xs, p, ps, rfl, hs, hd, hal, hdep, q⟩ := h
  obtain ⟨its, rv, hl, hz⟩ := I.list hs
  rw [Vals.ref1 r]
  obtain ⟨as, ra⟩ := Dp.readsAll I (p :: ps) xs its hd rv
  refine PySem.W.min_list_data (I.ok.hd hc) hl.isList (by simpa using ra) hal (by have := hr.un; omega) fun i v h' tk bs hv rd kk => ?_
  have hi : i < its.length := by have := (Array.getElem?_eq_some_iff.mp hv).1; simpa using this
  have hx : i < xs.length := by rw [rv.length]; exact hi
  have ex : xs[i]? = some xs[i] := by simp [hx]
  obtain ⟨u, hu, ru⟩ := rv.get ex
  have huv : u = v := by
    have : its.toArray[i]? = some u := by simpa using hu
    rw [this] at hv
    exact Option.some.inj hv
  subst huv
  obtain ⟨pi, hpi, dpi⟩ := dpAll_get hd ex
  obtain ⟨as', rd'⟩ := Dp.reads I pi _ _ dpi ru
  have e1 : pi = PySem.W.minD p ps := PySem.W.alike_unique pi (PySem.W.minD p ps) _ _ _ (hal.1 pi (List.mem_of_getElem? hpi) _ (minD_mem p ps)) (PySem.W.reads_keeps kk rd') rd
  rw [e1] at hpi
  exact ⟨xs[i], H, I.kept kk, ru, q i _ ex hpi⟩
theorem fe_minL {p : Pos} (hc : X.calm = true) (hr : Room k X.A) (hm : X.mg "min" = none) (ha : PE X e (tF T W ms f)) (hK : X.K = T.K := by rfl) (hg : Gl X "min" := by rfl) (he : starEach [e] X.env = (false, eval e X.env) :: starEach [] X.env := by rfl) :
    PE X (.Call (.Name "min" p) [e] [] pos) (tF T W ms (eCall dMinL (aCons f aNil))) :=
  fe_callB (cr_minData hc hr) (by
    rw [hK]
    intro H0 B0 ms en σ H pend ds vs d Q s h q
    obtain ⟨B, c, e, p, r⟩ := id s
    unfold dMinL at h
    split at h
    · split at h
      · rename_i q1 ps hp
        split at h
        · rename_i hok
          cases h
          rw [Bool.and_eq_true, decide_eq_true_eq] at hok
          obtain ⟨v, rfl, rv⟩ := reps1 r
          obtain ⟨a, vs, rfl, _, h1, rs⟩ := rep_lst.mp rv
          refine ⟨a, vs, q1, ps, rfl, SqL.of h1, Reps.dp _ _ _ rs hp, alikeOk_all hok.1, hok.2, fun i x hx hi => ?_⟩
          obtain ⟨dd, hd, rd⟩ := rs.get' hx
          obtain ⟨pp, hpp, tp⟩ := toPyAll_get hp hd
          rw [hi] at hpp
          cases hpp
          refine q x H ⟨B, c, e, fun z hz => ?_⟩
          rcases List.mem_cons.mp hz with rfl | hz
          · rw [from_to _ _ tp]; exact rd
          · exact p z hz
        · cases h
      · cases h
    · cases h) dMinL_exc hm (by decide +kernel) (fa_cons ha fa_nil he) hg (by decide) (by decide) he
end
end Fd

set_option Elab.async false
set_option linter.all false
set_option maxRecDepth 100000
namespace Fd
open PySem PySem.Spec PyProof.Rows L2

/-! ### sorted of a list of data -/
def pyOf (d : D) : PyData := (toPy d).getD .none
def leD : D → D → Bool := PySem.W.dataLe false pyOf
def noneEmptyTup : PyData → Bool
  | .tuple (_ :: _) => true
  | _ => false
def plainD : PyData → Bool
  | .none => false
  | .tuple _ => false
  | _ => true
def sortOk (ps : List PyData) : Bool := (ps.all fun x => ps.all fun y => PySem.W.alike x y) && (ps.all noneEmptyTup || ps.all plainD)
def dSorted : List D → R D
  | [.lst ds] => match toPyAll ds with
    | some ps => if sortOk ps && decide (PyData.depthAll ps ≤ 60) && decide (ds.length ≤ 16777216) then .ok (.lst (ds.mergeSort leD)) else .bad
    | none => .bad
  | _ => .bad
theorem dSorted_exc : NoExcL dSorted := by intro x c fs h; unfold dSorted at h; (repeat' split at h) <;> cases h
theorem sortOk_alike {ps : List PyData} (h : sortOk ps = true) : PySem.W.AllAlike ps := by
  unfold sortOk at h
  rw [Bool.and_eq_true, List.all_eq_true] at h
  intro d hd d' hd'
  have := h.1 d hd
  rw [List.all_eq_true] at this
  exact this d' hd'
theorem sortOk_able {ps : List PyData} (h : sortOk ps = true) : PySem.W.Sortable ps := by
  unfold sortOk at h
  rw [Bool.and_eq_true, Bool.or_eq_true, List.all_eq_true, List.all_eq_true, List.all_eq_true] at h
  rcases h.2 with h | h
  · refine .inl fun d hd => ?_
    have := h d hd
    unfold noneEmptyTup at this
    split at this
    · exact ⟨_, _, rfl⟩
    · cases this
  · refine .inr fun d hd => ?_
    have := h d hd
    unfold plainD at this
    refine ⟨fun z => ?_, fun xs z => ?_⟩
    · subst z; exact absurd this (by decide)
    · subst z; exact absurd this (by simp)
theorem toPyAll_map : ∀ {ds : List D} {ps : List PyData}, toPyAll ds = some ps → ds.map pyOf = ps
  | [], ps, h => by simp only [toPyAll] at h; cases h; rfl
  | d :: ds, ps, h => by
    simp only [toPyAll] at h
    cases h1 : toPy d with
    | none => rw [h1] at h; cases h
    | some p1 =>
      cases h2 : toPyAll ds with
      | none => rw [h1, h2] at h; cases h
      | some ps1 =>
        rw [h1, h2] at h
        cases h
        rw [List.map_cons, toPyAll_map h2]
        unfold pyOf
        rw [h1]; rfl
theorem depth_le {p : PyData} : ∀ {ps : List PyData}, p ∈ ps → p.depth ≤ PyData.depthAll ps
  | q :: ps, h => by
    rw [PyData.depthAll]
    rcases List.mem_cons.mp h with rfl | h
    · exact Nat.le_max_left _ _
    · exact Nat.le_trans (depth_le h) (Nat.le_max_right _ _)
def rSortedD (K : PySem.W.Frag) : List V → Hp → VK → Prop := fun vs H Q => ∃ (a : Addr) (xs : List V) (ds : List D) (P : V → D → Prop), vs = [V.ref a] ∧ SqL K H a xs ∧ PySem.W.EachIs P xs ds ∧ (∀ x d, d ∈ ds → P x d → Dp K H x (pyOf d)) ∧
  PySem.W.AllAlike (ds.map pyOf) ∧ PySem.W.Sortable (ds.map pyOf) ∧ ds.length ≤ sizeLine ∧ (∀ d ∈ ds, (pyOf d).depth ≤ 60) ∧ ∀ ys p, PySem.W.EachIs P ys (ds.mergeSort leD) → H p = none → Q (.ref p) (upd H p (.lst ys))
theorem each_vals {P : V → D → Prop} : ∀ {xs : List V} {us : List Value} {ds : List D}, Vals xs us → PySem.W.EachIs P xs ds → PySem.W.EachIs (fun u d => ∃ x, RelV x u ∧ P x d) us ds
  | _, _, _, .nil, .nil => .nil
  | _, _, _, .cons r t, .cons p q => .cons ⟨_, r, p⟩ (each_vals t q)
theorem vals_each {P : V → D → Prop} : ∀ {us : List Value} {ds : List D}, PySem.W.EachIs (fun u d => ∃ x, RelV x u ∧ P x d) us ds → ∃ xs, Vals xs us ∧ PySem.W.EachIs P xs ds
  | _, _, .nil => ⟨[], .nil, .nil⟩
  | _, _, .cons ⟨x, r, p⟩ t => by
    obtain ⟨xs, h1, h2⟩ := vals_each t
    exact ⟨x :: xs, .cons r h1, .cons p h2⟩
theorem each_mono_mem {α β : Type} {R S : α → β → Prop} : ∀ {as : List α} {bs : List β}, PySem.W.EachIs R as bs → (∀ a b, b ∈ bs → R a b → S a b) → PySem.W.EachIs S as bs
  | _, _, .nil, _ => .nil
  | _, _, .cons r t, h => .cons (h _ _ List.mem_cons_self r) (each_mono_mem t fun a b hb => h a b (List.mem_cons_of_mem _ hb))
theorem each_len {α β : Type} {R : α → β → Prop} : ∀ {as : List α} {bs : List β}, PySem.W.EachIs R as bs → as.length = bs.length
  | _, _, .nil => rfl
  | _, _, .cons _ t => by rw [List.length_cons, List.length_cons, each_len t]
theorem reps_each {T : Tab} {B : Addr → Prop} {H : Hp} : ∀ {ds : List D} {vs : List V}, Reps T B H ds vs → PySem.W.EachIs (fun v d => Rep T B H d v) vs ds
  | [], vs, h => by rw [reps_nil.mp h]; exact .nil
  | d :: ds, vs, h => by
    obtain ⟨v, ws, rfl, r, rs⟩ := reps_cons.mp h
    exact .cons r (reps_each rs)
theorem each_reps {T : Tab} {B : Addr → Prop} {H : Hp} : ∀ {ds : List D} {vs : List V}, PySem.W.EachIs (fun v d => Rep T B H d v) vs ds → Reps T B H ds vs
  | _, _, .nil => reps_nil.mpr rfl
  | _, _, .cons r t => reps_cons.mpr ⟨_, _, rfl, r, each_reps t⟩
section
variable {X : Cx} {T : Tab} {W : WX} {ms mb : List Nat} {e : Expr} {pos : Pos} {f g : EF} {k : Nat}
theorem cr_sortedD (hr : Room k X.A) : CallR X (.builtin "sorted") (rSortedD X.K) := by
  intro pins s σ H vs us Q I r h
  obtain ⟨a, xs, ds, P, rfl, hs, he, hP, h1, h2, h3, h4, q⟩ := h
  obtain ⟨its, rv, hl, hz⟩ := I.list hs
  rw [Vals.ref1 r]
  have ev := each_vals rv he
  refine PySem.W.sorted_data (enc := pyOf) (R := fun u d => ∃ x, RelV x u ∧ P x d) hl.isList ev (each_mono_mem ev fun u d hd ⟨x, rx, px⟩ => Dp.reads I _ x u (hP x d hd px) rx) h1 h2 h3 (fun d hd => by have := hr.un; have := h4 d hd; omega) fun out ho eo => ?_
  obtain ⟨ys, vy, ey⟩ := vals_each eo
  obtain ⟨ep, he'⟩ := PyProof.Rows.sortedAll_at s.heap its (List.toArray out)
  have hlen : ys.length ≤ sizeLine := by rw [vy.length, ho]; exact h3
  exact ⟨.ref _, upd H (s.heap.objs.size + 1) (.lst ys), I.laid (t' := s.toks) (fun _ _ => PyProof.Rows.sortedAll_old) (Nat.le_succ _) ⟨hlen, out, ep, vy, he'⟩, rfl, q ys _ ey (I.hok.fresh (Nat.le_succ _))⟩
theorem fn_sorted {p : Pos} (hr : Room k X.A) (hm : X.mg "sorted" = none) (ha : PE X e (tF T W ms f)) (hK : X.K = T.K := by rfl) (hg : Gl X "sorted" := by rfl) (he : starEach [e] X.env = (false, eval e X.env) :: starEach [] X.env := by rfl) :
    PE X (.Call (.Name "sorted" p) [e] [] pos) (nF T W ms (eCall dSorted (aCons f aNil))) :=
  fn_callB (cr_sortedD hr) (by
    rw [hK]
    intro H0 B0 ms en σ H pend ds vs d Q s h q
    obtain ⟨B, c, e, p, r⟩ := id s
    unfold dSorted at h
    split at h
    · rename_i ds1
      split at h
      · rename_i ps hp
        split at h
        · rename_i hok
          cases h
          rw [Bool.and_eq_true, Bool.and_eq_true, decide_eq_true_eq, decide_eq_true_eq] at hok
          obtain ⟨v, rfl, rv⟩ := reps1 r
          obtain ⟨a, vs, rfl, _, h1, rs⟩ := rep_lst.mp rv
          have hmap := toPyAll_map hp
          refine ⟨a, vs, ds1, fun v d => Rep T B H d v, rfl, SqL.of h1, reps_each rs, fun x d hd rx => ?_, by rw [hmap]; exact sortOk_alike hok.1.1, by rw [hmap]; exact sortOk_able hok.1.1, fits_line hok.2, fun d hd => ?_, fun ys l ey n => q _ _ (SRL.own ⟨B, c, e, p, each_reps ey⟩ n)⟩
          · obtain ⟨i, hi⟩ := List.mem_iff_getElem?.mp hd
            obtain ⟨pp, _, tp⟩ := toPyAll_get hp hi
            refine Rep.dp _ _ _ rx ?_
            unfold pyOf; rw [tp]; rfl
          · exact Nat.le_trans (depth_le (by rw [← hmap]; exact List.mem_map.mpr ⟨d, hd, rfl⟩)) hok.1.2
        · cases h
      · cases h
    · cases h) dSorted_exc hm (by decide +kernel) (fa_cons ha fa_nil he) hg (by decide) (by decide) he

/-! ### isinstance with a built-in class -/
def tyD : D → Option String
  | .non => some "NoneType"
  | .bl _ => some "bool"
  | .int _ => some "int"
  | .str _ => some "str"
  | .lst _ => some "list"
  | .tup _ => some "tuple"
  | .dK _ => some "dict"
  | _ => none
def dIsI (c : String) (d : D) : R D := match tyD d with
  | some t => match kitB t c with
    | some b => .ok (.bl b)
    | none => .bad
  | none => .bad
theorem fe_isI {c : String} {cx : Str} {p p2 : Pos} (hm : X.mg "isinstance" = none) (hmc : X.mg cx = none) (hcv : bootBuiltins cx = some (.type c)) (ha : PE X e (tF T W ms f)) (hK : X.K = T.K := by rfl) (hg : Gl X "isinstance" := by rfl) (hgc : Gl X cx := by rfl) (hcn : cx ≠ "__name__" := by decide) (hcd : (cx == ("__debug__" : Str)) = false := by decide)
    (he : starEach [e, .Name cx p2] X.env = (false, eval e X.env) :: starEach [.Name cx p2] X.env := by rfl) (he2 : starEach [.Name cx p2] X.env = (false, eval (.Name cx p2) X.env) :: starEach [] X.env := by rfl) (hpl : (backTo pos (starEach [.Name cx p2] X.env)).any (·.1) = false := by rfl) :
    PE X (.Call (.Name "isinstance" p) [e, .Name cx p2] [] pos) (tF T W ms (eU (dIsI c) f)) :=
  mE (pe_callB call_isi hg hm (by decide +kernel) (L2.pa_cons ha (L2.pa_cons (pe_bltn (v := .ty c) hgc hmc hcv rfl hcn hcd) L2.pa_nil he2) he) (by decide) (by decide) he hpl) fun σ H Q w => by
    refine un_step (T := T) (r := fun x H1 Q => rIsi X.K [x, .ty c] H1 Q) (fun H0 B0 ms en σ H pend dx x d Q s h q => ?_) (fun x c' fs h => ?_) w
    · obtain ⟨B, cr, eo, p, r⟩ := one s
      unfold dIsI at h
      split at h
      · rename_i t ht
        split at h
        · rename_i b hb
          cases h
          refine ⟨x, .ty c, .type t, .type c, b, rfl, .ty c, ?_, kit_ty hb, q _ H (s.flat rfl)⟩
          cases dx <;> simp only [tyD] at ht <;> cases ht
          · rw [rep_non.mp r]; exact .base .non
          · rw [rep_bl.mp r]; exact .base (.bl _)
          · rw [rep_int.mp r]; exact .base (.int _)
          · rw [rep_str.mp r]; exact .base (.str _)
          · obtain ⟨a, vs, rfl, _, h1, _⟩ := rep_lst.mp r; exact .base (.lst h1)
          · obtain ⟨a, vs, rfl, h1, _⟩ := rep_tup.mp r
            rcases h1 with ⟨_, h1⟩ | ⟨o, its, n, h1, h2, _⟩
            · exact .base (.tup h1)
            · rw [← hK] at h1; exact .kTuple h1 h2
          · obtain ⟨a, vs, rfl, _, h1, _⟩ := rep_dK.mp r; exact .base (.dK h1)
        · cases h
      · cases h
    · unfold dIsI at h; (repeat' split at h) <;> cases h

/-! ### owned lists: extend, pop, reverse -/
def sExt (i : Nat) (f : EF) : SF := fun en => match en[i]? with
  | some (some (.lst ds)) => lift (f en) en fun d => match d with
    | .lst es => if ds.length + es.length ≤ 16777216 then .nx (en.set i (some (.lst (ds ++ es)))) else .bad
    | _ => .bad
  | _ => .bad
theorem fs_ext (i : Nat) (h : PE X e (tBM X.K "list" rExtend (tVar i) (L2.tCons (tF T W ms f) L2.tNil))) (hi : i ∈ ms := by decide) (hs : swapsWith e none pos.line X.env = pure false := by rfl) : PS X (.Expr e pos) (sF T W ms ms mb (sExt i f)) :=
  mS (ps_expr h hs) fun Dn σ H ⟨H0, B0, en, pend, sr, post⟩ => by
    unfold sExt at post
    split at post
    · rename_i ds hd
      obtain ⟨a, vs, h1, h2, h3, -⟩ := sr.lstAt hi hd
      refine ⟨.ref a, h1, .inl ⟨rfl, _, SqL.of h2⟩, H0, B0, en, pend, sr, SPost.lift post fun d v H' s p => ?_⟩
      obtain ⟨a', vs', h1', h2', h3', -⟩ := s.lstAt hi hd
      rw [h1] at h1'
      cases h1'
      split at p
      · rename_i es
        split at p
        · rename_i hl
          obtain ⟨B, c, e, q, r⟩ := one s
          obtain ⟨b, ws, rfl, hb, h4, rs⟩ := rep_lst.mp r
          refine ⟨a, b, vs', ws, rfl, rfl, h2', h4, by rw [sizeLine_eq, ← h3', ← rs.length]; exact hl, p σ _ ?_⟩
          refine (s.writeL (ds' := ds ++ es) (vs' := vs' ++ ws) hi hd h1 h2' fun B p r => r.append ?_).tail
          obtain ⟨b', ws', e1, hb', h4', rs'⟩ := rep_lst.mp (p (.lst es, .ref b) List.mem_cons_self)
          cases e1
          rw [h4] at h4'
          cases h4'
          exact rs'
        · exact p.elim
      · exact p.elim
    · exact post.elim
def sRev (i : Nat) : SF := fun en => match en[i]? with
  | some (some (.lst ds)) => .nx (en.set i (some (.lst ds.reverse)))
  | _ => .bad
theorem fs_rev (i : Nat) (h : PE X e (tBM0 X.K "list" rReverse (tVar i))) (hi : i ∈ ms := by decide) (hs : swapsWith e none pos.line X.env = pure false := by rfl) : PS X (.Expr e pos) (sF T W ms ms mb (sRev i)) :=
  mS (ps_expr h hs) fun Dn σ H ⟨H0, B0, en, pend, sr, post⟩ => by
    unfold sRev at post
    split at post
    · rename_i ds hd
      obtain ⟨a, vs, h1, h2, h3, -⟩ := sr.lstAt hi hd
      exact ⟨.ref a, h1, .inl ⟨rfl, _, SqL.of h2⟩, a, vs, rfl, rfl, h2, post σ _ (sr.writeL (ds' := ds.reverse) (vs' := vs.reverse) hi hd h1 h2 fun B p r => r.reverse)⟩
    · exact post.elim
end
end Fd

set_option Elab.async false
set_option linter.all false
set_option maxRecDepth 100000
/-! What a printed walk leans on. -/
namespace Fd
open PySem PySem.Spec PyProof.Rows L2

/-- a def of the text, where it stands -/
structure DefAt (K : PySem.W.Frag) (mg : Str → Option Value) (name qual : Str) (st : Stmt) (ps : List Str) where
  f : Addr
  fd : FuncData
  F : Fun K name qual st f fd
  b : Binds K fd ps []
  g : mg name = some (.ref f)
section
variable {P : Program} {w : World} {K : PySem.W.Frag} {mg : Str → Option Value} {base : Heap}
theorem tk_of {N : List Str} {qual : Str} {sc : Scope} {f : Addr} {cdv : Value} {A : Around} {outer : List Env} {s : Shared} {H : Hp} {E : XK} :
    Takes (cxOf (L2.CX P w) P w K mg base N qual sc f cdv A outer s H E) (fun cls d _ H => E cls d H) := takes_of rfl rfl rfl rfl
theorem hp_of {N : List Str} {qual : Str} {sc : Scope} {f : Addr} {cdv : Value} {A : Around} {outer : List Env} {s : Shared} {H : Hp} {E : XK} :
    PassesOwn (model (cxOf (L2.CX P w) P w K mg base N qual sc f cdv A outer s H E).prog (cxOf (L2.CX P w) P w K mg base N qual sc f cdv A outer s H E).w) (cxOf (L2.CX P w) P w K mg base N qual sc f cdv A outer s H E).A
      (cxOf (L2.CX P w) P w K mg base N qual sc f cdv A outer s H E).env (cxOf (L2.CX P w) P w K mg base N qual sc f cdv A outer s H E).xe := passes_of rfl
theorem tk0 {X : Cx} : Takes X Wn := takes0
/-- a def that is never called -/
theorem fn_bad {T : Tab} {CX : CXT} {k n : Nat} {f : Addr} {fd : FuncData} {ps : List Str} {F : List D → R D} (h : ∀ ds, F ds = .bad) : FnOk P w K mg base CX k f fd ps (spF T n F) :=
  ⟨fun vs H Q E ⟨B, ds, _, _, _, p⟩ => by rw [h] at p; exact p.elim, fun A outer s H args us vs Q E _ _ _ _ ⟨B, ds, _, _, _, p⟩ => by rw [h] at p; exact p.elim⟩
theorem FnOk.up {CX : CXT} {j k : Nat} {f : Addr} {fd : FuncData} {ps : List Str} {sp : Sp} (F : FnOk P w K mg base CX j f fd ps sp) (h : j ≤ k) : FnOk P w K mg base CX k f fd ps sp := F.mono h
end
section
variable {X : Cx} {T : Tab} {W : WX} {ms mo mb m1 : List Nat} {e : Expr} {pos : Pos} {f : EF}
theorem fe_gl {x : Str} {v : V} {dd : D} (h : ∃ u, X.mg x = some u ∧ RelV v u) (fl : Flat dd v) (hg : Gl X x := by rfl) (hd : (x == ("__debug__" : Str)) = false := by decide) : PE X (.Name x pos) (tF T W ms (eC dd)) := by
  obtain ⟨u, h1, h2⟩ := h
  exact fe_const (pe_glob hg h1 h2 hd) fl
theorem fs_wi {ms' : List Nat} {rest : List Stmt} {u : SF} (h : PSs X rest (sF T W ms mo mb u)) (h1 : ∀ i ∈ ms, i ∈ ms' := by decide) : PSs X rest (sF T W ms' mo mb u) := fs_w h h1 (fun _ h => h) fun _ h => h
theorem fs_wo {mo' : List Nat} {rest : List Stmt} {u : SF} (h : PSs X rest (sF T W ms mo mb u)) (h1 : ∀ i ∈ mo', i ∈ mo := by decide) : PSs X rest (sF T W ms mo' mb u) := fs_w h (fun _ h => h) h1 fun _ h => h
theorem fs_wo1 {mo' : List Nat} {st : Stmt} {u : SF} (h : PS X st (sF T W ms mo mb u)) (h1 : ∀ i ∈ mo', i ∈ mo := by decide) : PS X st (sF T W ms mo' mb u) := fs_w1 h (fun _ h => h) h1 fun _ h => h
theorem fs_break' {mb : List Nat} (h1 : ∀ i ∈ mb, i ∈ ms := by decide) : PS X (.Break pos) (sF T W ms mo mb sBrk) := fs_w1 fs_break (fun _ h => h) (fun _ h => h) h1
theorem fs_continue' {mb : List Nat} (h1 : ∀ i ∈ mb, i ∈ ms := by decide) : PS X (.Continue pos) (sF T W ms mo mb sCnt) := fs_w1 fs_continue (fun _ h => h) (fun _ h => h) h1
theorem fs_set' {i : Nat} {x : Str} {pos' : Pos} (hN : X.N.Nodup) (he : PE X e (tF T W ms f)) (hm : rm i ms = m1 := by rfl) (hi : X.N[i]? = some x := by rfl) (hx : Loc X.env.scope x := by first | exact Or.inl rfl | exact Or.inr rfl) (hs : swapsWith e (some (.Name x pos')) pos.line X.env = pure false := by rfl)
    (hf : X.fn x = true ∨ X.env.scope.names.lookup x = some .local := by first | exact .inl rfl | exact .inr rfl | assumption) : PS X (.Assign [.Name x pos'] e pos) (sF T W ms m1 mb (sSet i f)) := by
  subst hm; exact fs_set hN he hi hx hs hf
theorem fs_setN' {i : Nat} {x : Str} {pos' : Pos} (hN : X.N.Nodup) (he : PE X e (nF T W ms f)) (hm : (i :: rm i ms) = m1 := by rfl) (hi : X.N[i]? = some x := by rfl) (hx : Loc X.env.scope x := by first | exact Or.inl rfl | exact Or.inr rfl) (hs : swapsWith e (some (.Name x pos')) pos.line X.env = pure false := by rfl)
    (hf : X.fn x = true ∨ X.env.scope.names.lookup x = some .local := by first | exact .inl rfl | exact .inr rfl | assumption) : PS X (.Assign [.Name x pos'] e pos) (sF T W ms m1 mb (sSet i f)) := by
  subst hm; exact fs_setN hN he hi hx hs hf
theorem fs_setLc' {js : List Nat} {tg elt iter : Expr} {ifs : List Expr} {c : CF} {it : IF} {t : TGF} {i : Nat} {y : Str} {py spos : Pos} {own : List (Str × Nat)} {scope : Scope} (bo : Bool) (hN : X.N.Nodup) (hi : PI X tg iter (iF T W ms it)) (ok : blkC X.N X.env.scope scope own = true)
    (hg : ∀ (s : Shared) (H : Hp) (C : Addr) (cl : List (Str × Addr)) (fp : List Addr), PG (X.blk s H scope (compEnvC scope cl C X.env) fp) tg (gF T [] js t)) (ht : ∀ (s : Shared) (H : Hp) (C : Addr) (cl : List (Str × Addr)) (fp : List Addr), PTs (X.blk s H scope (compEnvC scope cl C X.env) fp) ifs (cF T Wn [] c))
    (he : ∀ (s : Shared) (H : Hp) (C : Addr) (cl : List (Str × Addr)) (fp : List Addr), PE (X.blk s H scope (compEnvC scope cl C X.env) fp) elt (tF T Wn [] f)) (hsw : swapsWith (.ListComp elt [⟨tg, iter, ifs, 0⟩] scope pos) (some (.Name y py)) spos.line X.env = pure true)
    (hm : ∀ j ∈ m1, j ∈ i :: rm i ms := by decide) (hy : X.N[i]? = some y := by rfl) (hyl : X.env.scope.names.lookup y = some .local := by rfl) (hj : ∀ j ∈ js, j ∈ own.map (·.2) := by decide) (hc : X.calm = true := by rfl) (hs : ∀ x, foldedSetIterable iter X.env x = pure x := by intro _; rfl) :
    PS X (.Assign [.Name y py] (.ListComp elt [⟨tg, iter, ifs, 0⟩] scope pos) spos) (sF T W ms m1 mb (sSet i (eLc bo ms (own.map (·.2)) it t c f))) :=
  fs_w1 (fs_setLc bo hN hi ok hg ht he hsw hy hyl hj hc hs) (fun _ h => h) hm (fun _ h => h)
end

/-! ### the end of a law -/
def mkDefAt {K : PySem.W.Frag} {h : Heap} {mg : Str → Option Value} {name qual : Str} {st : Stmt} {ps : List Str} {f : Addr} {oc : Value} {od an : Option Addr} {osl : Array (Option Value)} {kV doc pm cdv ct : Value} (X : K.In h) (G : h.Ns mainGlobals mg)
    (a : PySem.W.nsIn K mainGlobals name = some (some (.ref f))) (l : K.lookup f = some ⟨oc, od, .func (PySem.W.fnOf name qual (defArgs st) (defBody st) (defScope st) .none kV doc pm an cdv ct), osl⟩) (c : PySem.W.codeIn K cdv qual = true) (k : PySem.W.keepIn K (.ref f) = true)
    (hb : ∀ (kV doc pm : Value) (an : Option Addr) (cdv ct : Value) (us : List Value), us.length = ps.length → bindArgs (PySem.W.fnOf name qual (defArgs st) (defBody st) (defScope st) .none kV doc pm an cdv ct) ⟨us, []⟩ = pure (ps.zip us)) : DefAt K mg name qual st ps :=
  ⟨f, _, fun_mk l c k, (fun_mk l c k).binds hb, PySem.W.mg_of X G a⟩
def spLaw (K : PySem.W.Frag) : Sp := fun vs H Q _ => ∃ (a : Addr) (ns : List Int), vs = [.ref a] ∧ SqL K H a (ns.map V.int) ∧ ns.length ≤ 63 ∧ ∀ H', Q (.bl true) H'
theorem law_end {P : Program} {w : World} {K : PySem.W.Frag} {mg : Str → Option Value} {base : Heap} {CX : CXT} {k : Nat} {f : Addr} {fd : FuncData} {T : Tab} {F : List D → R D} (h : ∀ ns : List Int, ns.length ≤ 63 → F [.scr ns] = .ok (.bl true))
    (G : FnOk P w K mg base CX k f fd ["script"] (spF T 1 F)) (hK : K = T.K) : FnOk P w K mg base CX k f fd ["script"] (spLaw K) := G.imp fun vs H Q E ⟨a, ns, hv, hS, hl, q⟩ => by
  subst hv
  refine ⟨fun b => H b ≠ none, [.scr ns], fun _ h => h, rfl, Reps.one (rep_scr.mpr ⟨a, rfl, ?_⟩), ?_⟩
  · subst hK
    rcases hS with hS | hS
    · refine .inl ⟨?_, hS⟩
      rcases hS with hS | ⟨o, hS⟩ <;> rw [hS] <;> simp
    · exact .inr hS
  · rw [h ns hl]
    intro v H' _ r
    rw [rep_bl.mp r]
    exact q H'
theorem cx_end {P : Program} {w : World} {H : Hp} {s : Shared} {e : Value} {s' : Shared} (h : L2.CX P w [] H s (fun _ _ _ => False) e s') : False := by
  obtain ⟨_, _, _, _, _, _, _, _, _, _, _, _, z⟩ := h
  exact z
end Fd

set_option Elab.async false
set_option linter.all false
/-! Meanings worked out: what must hold before, so that something holds of the outcome. -/
namespace Fd
open PySem PySem.Spec PyProof.Rows L2

/-! ### what must hold of the outcome -/
inductive Rp {α : Type} (P : α → Prop) : R α → Prop
  | ok {a : α} : P a → Rp P (.ok a)
inductive Step (N : En → Prop) (Rt : D → Prop) (Bk Ct : En → Prop) : RF → Prop
  | nx {e : En} : N e → Step N Rt Bk Ct (.nx e)
  | ret {d : D} : Rt d → Step N Rt Bk Ct (.ret d)
  | brk {e : En} : Bk e → Step N Rt Bk Ct (.brk e)
  | cnt {e : En} : Ct e → Step N Rt Bk Ct (.cnt e)
/-! what goes on after a part (constants, so that simp leaves what is to come alone) -/
section
variable {α : Type} (P : α → Prop) (en : En) (N : En → Prop) (Rt : D → Prop) (Bk Ct : En → Prop)
def kOp (op : D → D → R α) (x : D) (y : D) : Prop := Rp P (op x y)
def kB2 (op : D → D → R α) (g : EF) (x : D) : Prop := Rp (kOp P op x) (g en)
def kU {β : Type} (o : β → R α) (x : β) : Prop := Rp P (o x)
def kA2 (P : List D → Prop) (x : D) (xs : List D) : Prop := P (x :: xs)
def kA (P : List D → Prop) (k : En → R (List D)) (x : D) : Prop := Rp (kA2 P x) (k en)
def kNot (P : Bool → Prop) (b : Bool) : Prop := P (!b)
def kAnd (P : Bool → Prop) (c : CF) (b : Bool) : Prop := if b = true then Rp P (c en) else P false
def kOr (P : Bool → Prop) (c : CF) (b : Bool) : Prop := if b = true then P true else Rp P (c en)
def kIfE (P : D → Prop) (f g : EF) (b : Bool) : Prop := if b = true then Rp P (f en) else Rp P (g en)
def kEAnd2 (P : D → Prop) (g : EF) (x : D) (b : Bool) : Prop := if b = true then Rp P (g en) else P x
def kEAnd (P : D → Prop) (g : EF) (x : D) : Prop := Rp (kEAnd2 en P g x) (isTr x)
def kEOr2 (P : D → Prop) (g : EF) (x : D) (b : Bool) : Prop := if b = true then P x else Rp P (g en)
def kEOr (P : D → Prop) (g : EF) (x : D) : Prop := Rp (kEOr2 en P g x) (isTr x)
def kENot2 (P : D → Prop) (b : Bool) : Prop := P (.bl (!b))
def kENot (P : D → Prop) (x : D) : Prop := Rp (kENot2 P) (isTr x)
def kSome (P : Option Int → Prop) (i : Int) : Prop := P (some i)
def kSomeI (P : Option Int → Prop) (x : D) : Prop := Rp (kSome P) (intOf x)
def kCut3 (P : D → Prop) (x : D) (lo hi : Option Int) : Prop := Rp P (dCut x lo hi)
def kCut2 (P : D → Prop) (h : OF) (x : D) (lo : Option Int) : Prop := Rp (kCut3 P x lo) (h en)
def kCut (P : D → Prop) (l h : OF) (x : D) : Prop := Rp (kCut2 en P h x) (l en)
def kIxO (P : D → Prop) (i : Nat) (k : D) : Prop := ∃ ds, en[i]? = some (some (.lst ds)) ∧ Rp P (dIx (.lst ds) k)
def kBor (P : D → Prop) (x : D) : Prop := isFlat x = true ∧ P x
def kLst (P : D → Prop) (ds : List D) : Prop := P (.lst ds)
def kTup (P : D → Prop) (ds : List D) : Prop := P (.tup ds)
def kLc (P : D → Prop) (bo : Bool) (t : TGF) (c : CF) (f : EF) (ds : List D) : Prop := Rp (kLst P) (lcL bo t c f en ds [])
def kEnum (P : List D → Prop) (ds : List D) : Prop := P (enumD ds)
def kRev (P : List D → Prop) (ds : List D) : Prop := P ds.reverse
def kRg1 (P : List D → Prop) (x : D) : Prop := Rp P (rg1 x)
def kThen (v : SF) (e : En) : Prop := Step N Rt Bk Ct (v e)
def kSet (i : Nat) (d : D) : Prop := N (en.set i (some d))
def kDrop (d : D) : Prop := N en
def kIf (u v : SF) (b : Bool) : Prop := if b = true then Step N Rt Bk Ct (u en) else Step N Rt Bk Ct (v en)
def kFor (t : TGF) (u : SF) (ds : List D) : Prop := Step N Rt Bk Ct (forL t u ds en)
def kApp (i : Nat) (d : D) : Prop := ∃ ds, en[i]? = some (some (.lst ds)) ∧ ds.length < 16777216 ∧ N (en.set i (some (.lst (ds ++ [d]))))
def kPut2 (i : Nat) (d : D) (k : D) : Prop := ∃ ds n, k = .int n ∧ en[i]? = some (some (.lst ds)) ∧ ∃ j, ixN ds.length n = some j ∧ N (en.set i (some (.lst (ds.set j d))))
def kPut (i : Nat) (g : EF) (d : D) : Prop := Rp (kPut2 en N i d) (g en)
def kExt (i : Nat) (d : D) : Prop := ∃ ds es, d = .lst es ∧ en[i]? = some (some (.lst ds)) ∧ ds.length + es.length ≤ 16777216 ∧ N (en.set i (some (.lst (ds ++ es))))
def kAsg (t : TGF) (d : D) : Prop := ∃ e, t d en = some e ∧ N e
end
section
variable {α β : Type} {P Q : α → Prop} {PD : D → Prop} {PB : Bool → Prop} {PL : List D → Prop} {PO : Option Int → Prop} {N N' : En → Prop} {Rt Rt' : D → Prop} {Bk Bk' Ct Ct' : En → Prop} {en : En}
variable {f g : EF} {c c' : CF} {op : D → D → R D} {u v : SF}
@[simp] theorem Rp_ok (a : α) : Rp P (.ok a) ↔ P a := ⟨fun h => by cases h; assumption, .ok⟩
@[simp] theorem Rp_bad : Rp P .bad ↔ False := ⟨nofun, nofun⟩
@[simp] theorem Rp_exc (x : String) (fs : List (Str × D)) : Rp P (.exc x fs) ↔ False := ⟨nofun, nofun⟩
@[simp] theorem Rp_ite (q : Prop) [Decidable q] (r : R α) : Rp P (if q then r else .bad) ↔ q ∧ Rp P r := by
  by_cases h : q
  · rw [if_pos h]; simp [h]
  · rw [if_neg h]; simp [h]
theorem Rp_bind (r : R β) (k : β → R α) : Rp P (r.bind k) ↔ Rp (kU P k) r := by cases r <;> simp [kU]
@[simp] theorem Step_nx (e : En) : Step N Rt Bk Ct (.nx e) ↔ N e := ⟨fun h => by cases h; assumption, .nx⟩
@[simp] theorem Step_ret (e : D) : Step N Rt Bk Ct (.ret e) ↔ Rt e := ⟨fun h => by cases h; assumption, .ret⟩
@[simp] theorem Step_brk (e : En) : Step N Rt Bk Ct (.brk e) ↔ Bk e := ⟨fun h => by cases h; assumption, .brk⟩
@[simp] theorem Step_cnt (e : En) : Step N Rt Bk Ct (.cnt e) ↔ Ct e := ⟨fun h => by cases h; assumption, .cnt⟩
@[simp] theorem Step_bad : Step N Rt Bk Ct .bad ↔ False := ⟨nofun, nofun⟩
@[simp] theorem Step_exc (x : String) (fs : List (Str × D)) (e : En) : Step N Rt Bk Ct (.exc x fs e) ↔ False := ⟨nofun, nofun⟩
theorem Step_lift (r : R D) (k : D → RF) : Step N Rt Bk Ct (lift r en k) ↔ Rp (fun d => Step N Rt Bk Ct (k d)) r := by cases r <;> simp [lift]
theorem Step_liftB (r : R Bool) (k : Bool → RF) : Step N Rt Bk Ct (liftB r en k) ↔ Rp (fun d => Step N Rt Bk Ct (k d)) r := by cases r <;> simp [liftB]
theorem Step_liftL (r : R (List D)) (k : List D → RF) : Step N Rt Bk Ct (liftL r en k) ↔ Rp (fun d => Step N Rt Bk Ct (k d)) r := by cases r <;> simp [liftL]
theorem Rp_bindOk (r : R β) (k : β → α) : Rp P (r.bind fun b => .ok (k b)) ↔ Rp (fun b => P (k b)) r := by cases r <;> simp
theorem Rp_iteOk (q : Prop) [Decidable q] (a : α) : Rp P (if q then .ok a else .bad) ↔ q ∧ P a := (Rp_ite q (.ok a)).trans (and_congr_right fun _ => Rp_ok a)
theorem Step_liftNx (r : R D) (k : D → En) : Step N Rt Bk Ct (lift r en fun d => .nx (k d)) ↔ Rp (fun d => N (k d)) r := by cases r <;> simp [lift]
theorem Step_liftRet (r : R D) (k : D → D) : Step N Rt Bk Ct (lift r en fun d => .ret (k d)) ↔ Rp (fun d => Rt (k d)) r := by cases r <;> simp [lift]
/-! the parts -/
@[simp] theorem ev_var0 (d : D) : eVar 0 (some d :: en) = .ok d := rfl
@[simp] theorem ev_varS (i : Nat) (x : Option D) : eVar (i + 1) (x :: en) = eVar i en := rfl
@[simp] theorem ev_C (d : D) : eC d en = .ok d := rfl
@[simp] theorem ev_cYes : cYes en = .ok true := rfl
@[simp] theorem ev_aNil : aNil en = .ok [] := rfl
@[simp] theorem ev_oNone : oNone en = .ok none := rfl
@[simp] theorem wp_B2 : Rp PD (eB2 op f g en) ↔ Rp (kB2 PD en op g) (f en) := by
  refine (Rp_bind _ _).trans ?_
  have e : kU PD (fun x => (g en).bind fun y => op x y) = kB2 PD en op g := by funext x; first | exact propext (Rp_bind _ _) | exact propext (Rp_bindOk _ _)
  rw [e]
@[simp] theorem wp_kB2 (x : D) : kB2 PD en op g x ↔ Rp (kOp PD op x) (g en) := Iff.rfl
@[simp] theorem wp_kOp (x y : D) : kOp PD op x y ↔ Rp PD (op x y) := Iff.rfl
@[simp] theorem wp_U (o : D → R D) : Rp PD (eU o f en) ↔ Rp (kU PD o) (f en) := by first | exact Rp_bind _ _ | exact Rp_bindOk _ _
@[simp] theorem wp_kU (o : β → R α) (x : β) : kU P o x ↔ Rp P (o x) := Iff.rfl
@[simp] theorem wp_aCons (k : En → R (List D)) : Rp PL (aCons f k en) ↔ Rp (kA en PL k) (f en) := by
  refine (Rp_bind _ _).trans ?_
  have e : kU PL (fun x => (k en).bind fun xs => .ok (x :: xs)) = kA en PL k := by funext x; first | exact propext (Rp_bind _ _) | exact propext (Rp_bindOk _ _)
  rw [e]
@[simp] theorem wp_kA (k : En → R (List D)) (x : D) : kA en PL k x ↔ Rp (kA2 PL x) (k en) := Iff.rfl
@[simp] theorem wp_kA2 (x : D) (xs : List D) : kA2 PL x xs ↔ PL (x :: xs) := Iff.rfl
@[simp] theorem wp_call (F : List D → R D) (k : En → R (List D)) : Rp PD (eCall F k en) ↔ Rp (kU PD F) (k en) := by first | exact Rp_bind _ _ | exact Rp_bindOk _ _
@[simp] theorem wp_cTr : Rp PB (cTr f en) ↔ Rp (kU PB isTr) (f en) := by first | exact Rp_bind _ _ | exact Rp_bindOk _ _
@[simp] theorem wp_cBl : Rp PB (cBl f en) ↔ Rp (kU PB blOf) (f en) := by first | exact Rp_bind _ _ | exact Rp_bindOk _ _
@[simp] theorem wp_cNot : Rp PB (cNot c en) ↔ Rp (kNot PB) (c en) := by first | exact Rp_bind _ _ | exact Rp_bindOk _ _
@[simp] theorem wp_kNot (b : Bool) : kNot PB b ↔ PB (!b) := Iff.rfl
@[simp] theorem wp_cAnd : Rp PB (cAnd c c' en) ↔ Rp (kAnd en PB c') (c en) := by
  refine (Rp_bind _ _).trans ?_
  have e : kU PB (fun b => if b = true then c' en else .ok false) = kAnd en PB c' := by funext x; cases x <;> simp [kU, kAnd]
  rw [e]
@[simp] theorem wp_kAnd (b : Bool) : kAnd en PB c b ↔ if b = true then Rp PB (c en) else PB false := Iff.rfl
@[simp] theorem wp_cOr : Rp PB (cOr c c' en) ↔ Rp (kOr en PB c') (c en) := by
  refine (Rp_bind _ _).trans ?_
  have e : kU PB (fun b => if b = true then .ok true else c' en) = kOr en PB c' := by funext x; cases x <;> simp [kU, kOr]
  rw [e]
@[simp] theorem wp_kOr (b : Bool) : kOr en PB c b ↔ if b = true then PB true else Rp PB (c en) := Iff.rfl
@[simp] theorem wp_If : Rp PD (eIf c f g en) ↔ Rp (kIfE en PD f g) (c en) := by
  refine (Rp_bind _ _).trans ?_
  have e : kU PD (fun b => if b = true then f en else g en) = kIfE en PD f g := by funext x; cases x <;> rfl
  rw [e]
@[simp] theorem wp_kIfE (b : Bool) : kIfE en PD f g b ↔ if b = true then Rp PD (f en) else Rp PD (g en) := Iff.rfl
@[simp] theorem wp_And : Rp PD (eAnd f g en) ↔ Rp (kEAnd en PD g) (f en) := by
  refine (Rp_bind _ _).trans ?_
  have e : kU PD (fun x => (isTr x).bind fun b => if b = true then g en else .ok x) = kEAnd en PD g := by
    funext x
    refine propext ((Rp_bind _ _).trans ?_)
    have e : kU PD (fun b => if b = true then g en else .ok x) = kEAnd2 en PD g x := by funext b; cases b <;> simp [kU, kEAnd2]
    rw [e]; rfl
  rw [e]
@[simp] theorem wp_kEAnd (x : D) : kEAnd en PD g x ↔ Rp (kEAnd2 en PD g x) (isTr x) := Iff.rfl
@[simp] theorem wp_kEAnd2 (x : D) (b : Bool) : kEAnd2 en PD g x b ↔ if b = true then Rp PD (g en) else PD x := Iff.rfl
@[simp] theorem wp_Or : Rp PD (eOr f g en) ↔ Rp (kEOr en PD g) (f en) := by
  refine (Rp_bind _ _).trans ?_
  have e : kU PD (fun x => (isTr x).bind fun b => if b = true then .ok x else g en) = kEOr en PD g := by
    funext x
    refine propext ((Rp_bind _ _).trans ?_)
    have e : kU PD (fun b => if b = true then .ok x else g en) = kEOr2 en PD g x := by funext b; cases b <;> simp [kU, kEOr2]
    rw [e]; rfl
  rw [e]
@[simp] theorem wp_kEOr (x : D) : kEOr en PD g x ↔ Rp (kEOr2 en PD g x) (isTr x) := Iff.rfl
@[simp] theorem wp_kEOr2 (x : D) (b : Bool) : kEOr2 en PD g x b ↔ if b = true then PD x else Rp PD (g en) := Iff.rfl
@[simp] theorem wp_Not : Rp PD (eNot f en) ↔ Rp (kENot PD) (f en) := by
  refine (Rp_bind _ _).trans ?_
  have e : kU PD (fun x => (isTr x).bind fun b => .ok (.bl (!b))) = kENot PD := by funext x; first | exact propext (Rp_bind _ _) | exact propext (Rp_bindOk _ _)
  rw [e]
@[simp] theorem wp_kENot (x : D) : kENot PD x ↔ Rp (kENot2 PD) (isTr x) := Iff.rfl
@[simp] theorem wp_kENot2 (b : Bool) : kENot2 PD b ↔ PD (.bl (!b)) := Iff.rfl
@[simp] theorem wp_eTup (k : En → R (List D)) : Rp PD (eTup k en) ↔ Rp (kU PD dTup) (k en) := by first | exact Rp_bind _ _ | exact Rp_bindOk _ _
@[simp] theorem wp_eLst (k : En → R (List D)) : Rp PD (eLst k en) ↔ Rp (kU PD dLst) (k en) := by first | exact Rp_bind _ _ | exact Rp_bindOk _ _
@[simp] theorem wp_dTup (ds : List D) : Rp PD (dTup ds) ↔ ds.length ≤ 16777216 ∧ PD (.tup ds) := by first | exact Rp_ite _ _ | exact Rp_iteOk _ _
@[simp] theorem wp_dLst (ds : List D) : Rp PD (dLst ds) ↔ ds.length ≤ 16777216 ∧ PD (.lst ds) := by first | exact Rp_ite _ _ | exact Rp_iteOk _ _
@[simp] theorem wp_nArgs (n : Nat) (F : List D → R D) (ds : List D) : Rp PD (nArgs n F ds) ↔ ds.length = n ∧ Rp PD (F ds) := by first | exact Rp_ite _ _ | exact Rp_iteOk _ _
@[simp] theorem wp_oSome : Rp PO (oSome f en) ↔ Rp (kSomeI PO) (f en) := by
  refine (Rp_bind _ _).trans ?_
  have e : kU PO (fun x => (intOf x).bind fun i => .ok (some i)) = kSomeI PO := by funext x; first | exact propext (Rp_bind _ _) | exact propext (Rp_bindOk _ _)
  rw [e]
@[simp] theorem wp_kSomeI (x : D) : kSomeI PO x ↔ Rp (kSome PO) (intOf x) := Iff.rfl
@[simp] theorem wp_kSome (i : Int) : kSome PO i ↔ PO (some i) := Iff.rfl
@[simp] theorem ev_intOf (i : Int) : intOf (.int i) = .ok i := rfl
@[simp] theorem wp_cut (l h : OF) : Rp PD (eCut f l h en) ↔ Rp (kCut en PD l h) (f en) := by
  refine (Rp_bind _ _).trans ?_
  have e : kU PD (fun x => (l en).bind fun lo => (h en).bind fun hi => dCut x lo hi) = kCut en PD l h := by
    funext x
    refine propext ((Rp_bind _ _).trans ?_)
    have e : kU PD (fun lo => (h en).bind fun hi => dCut x lo hi) = kCut2 en PD h x := by funext lo; first | exact propext (Rp_bind _ _) | exact propext (Rp_bindOk _ _)
    rw [e]; rfl
  rw [e]
@[simp] theorem wp_kCut (l h : OF) (x : D) : kCut en PD l h x ↔ Rp (kCut2 en PD h x) (l en) := Iff.rfl
@[simp] theorem wp_kCut2 (h : OF) (x : D) (lo : Option Int) : kCut2 en PD h x lo ↔ Rp (kCut3 PD x lo) (h en) := Iff.rfl
@[simp] theorem wp_kCut3 (x : D) (lo hi : Option Int) : kCut3 PD x lo hi ↔ Rp PD (dCut x lo hi) := Iff.rfl
@[simp] theorem wp_ixO (i : Nat) : Rp PD (eIxO i g en) ↔ Rp (kIxO en PD i) (g en) := by
  unfold eIxO
  split
  · rename_i ds h
    refine (Rp_bind _ _).trans ?_
    have e : kU PD (fun k => dIx (.lst ds) k) = kIxO en PD i := by
      funext k
      refine propext ⟨fun hk => ⟨ds, h, hk⟩, fun ⟨ds', h', hk⟩ => ?_⟩
      rw [h] at h'; cases h'; exact hk
    rw [e]
  · rename_i h
    constructor
    · exact nofun
    · intro hk
      cases q : g en with
      | ok k => rw [q] at hk; obtain ⟨ds, h', _⟩ := (Rp_ok _).mp hk; exact (h ds h').elim
      | exc => rw [q] at hk; exact nomatch hk
      | bad => rw [q] at hk; exact nomatch hk
def slotIx (PD : D → Prop) (k : D) : Option (Option D) → Prop
  | some (some (.lst ds)) => Rp PD (dIx (.lst ds) k)
  | _ => False
@[simp] theorem wp_slotIx (k : D) (ds : List D) : slotIx PD k (some (some (.lst ds))) ↔ Rp PD (dIx (.lst ds) k) := Iff.rfl
@[simp] theorem wp_kIxO (i : Nat) (k : D) : kIxO en PD i k ↔ slotIx PD k en[i]? := by
  unfold kIxO slotIx
  generalize en[i]? = o
  split
  · rename_i ds
    exact ⟨fun ⟨ds', h', hk⟩ => by cases h'; exact hk, fun hk => ⟨ds, rfl, hk⟩⟩
  · rename_i h
    exact ⟨fun ⟨ds', h', hk⟩ => (h ds' h').elim, fun h => h.elim⟩
@[simp] theorem wp_borrow : Rp PD (eBorrow f en) ↔ Rp (kBor PD) (f en) := by
  refine (Rp_bind _ _).trans ?_
  have e : kU PD (fun d => if isFlat d = true then .ok d else .bad) = kBor PD := by funext x; first | exact propext (Rp_ite _ _) | exact propext (Rp_iteOk _ _)
  rw [e]
@[simp] theorem wp_kBor (x : D) : kBor PD x ↔ isFlat x = true ∧ PD x := Iff.rfl
@[simp] theorem wp_eLc (bo : Bool) (ms own : List Nat) (it : IF) (t : TGF) : Rp PD (eLc bo ms own it t c f en) ↔ Rp (kLc (lcEn bo ms own en) PD bo t c f) (it en) := by
  refine (Rp_bind _ _).trans ?_
  have e : kU PD (fun ds => (lcL bo t c f (lcEn bo ms own en) ds []).bind fun r => .ok (.lst r)) = kLc (lcEn bo ms own en) PD bo t c f := by funext x; first | exact propext (Rp_bind _ _) | exact propext (Rp_bindOk _ _)
  rw [e]
@[simp] theorem wp_kLc (bo : Bool) (t : TGF) (ds : List D) : kLc en PD bo t c f ds ↔ Rp (kLst PD) (lcL bo t c f en ds []) := Iff.rfl
@[simp] theorem wp_kLst (ds : List D) : kLst PD ds ↔ PD (.lst ds) := Iff.rfl
@[simp] theorem wp_kTup (ds : List D) : kTup PD ds ↔ PD (.tup ds) := Iff.rfl
@[simp] theorem wp_iSeq : Rp PL (iSeq f en) ↔ Rp (kU PL seqOf) (f en) := by first | exact Rp_bind _ _ | exact Rp_bindOk _ _
@[simp] theorem wp_iRange1 : Rp PL (iRange1 f en) ↔ Rp (kU PL range1) (f en) := by first | exact Rp_bind _ _ | exact Rp_bindOk _ _
def kRange2 (PL : List D → Prop) (x y : D) : Prop := Rp PL (range2 x y)
def kRange2a (en : En) (PL : List D → Prop) (g : EF) (x : D) : Prop := Rp (kRange2 PL x) (g en)
@[simp] theorem wp_iRange2 : Rp PL (iRange2 f g en) ↔ Rp (kRange2a en PL g) (f en) := by
  refine (Rp_bind _ _).trans ?_
  have e : kU PL (fun x => (g en).bind fun y => range2 x y) = kRange2a en PL g := by funext x; first | exact propext (Rp_bind _ _) | exact propext (Rp_bindOk _ _)
  rw [e]
@[simp] theorem wp_kRange2a (x : D) : kRange2a en PL g x ↔ Rp (kRange2 PL x) (g en) := Iff.rfl
@[simp] theorem wp_kRange2 (x y : D) : kRange2 PL x y ↔ Rp PL (range2 x y) := Iff.rfl
def kRevRange (PL : List D → Prop) (x : D) : Prop := Rp (kRev PL) (range1 x)
@[simp] theorem wp_iRevRange1 : Rp PL (iRevRange1 f en) ↔ Rp (kRevRange PL) (f en) := by
  refine (Rp_bind _ _).trans ?_
  have e : kU PL (fun x => (range1 x).bind fun ds => .ok ds.reverse) = kRevRange PL := by funext x; first | exact propext (Rp_bind _ _) | exact propext (Rp_bindOk _ _)
  rw [e]
@[simp] theorem wp_kRevRange (x : D) : kRevRange PL x ↔ Rp (kRev PL) (range1 x) := Iff.rfl
@[simp] theorem wp_kRev (ds : List D) : kRev PL ds ↔ PL ds.reverse := Iff.rfl
def kEnumL (PL : List D → Prop) (x : D) : Prop := Rp (kEnum PL) (lstOf x)
@[simp] theorem wp_iEnum : Rp PL (iEnum f en) ↔ Rp (kEnumL PL) (f en) := by
  refine (Rp_bind _ _).trans ?_
  have e : kU PL (fun x => (lstOf x).bind fun ds => .ok (enumD ds)) = kEnumL PL := by funext x; first | exact propext (Rp_bind _ _) | exact propext (Rp_bindOk _ _)
  rw [e]
@[simp] theorem wp_kEnumL (x : D) : kEnumL PL x ↔ Rp (kEnum PL) (lstOf x) := Iff.rfl
@[simp] theorem wp_kEnum (ds : List D) : kEnum PL ds ↔ PL (enumD ds) := Iff.rfl
def kRevS (PL : List D → Prop) (x : D) : Prop := Rp (kRev PL) (seqOf x)
@[simp] theorem wp_iRev : Rp PL (iRev f en) ↔ Rp (kRevS PL) (f en) := by
  refine (Rp_bind _ _).trans ?_
  have e : kU PL (fun x => (seqOf x).bind fun ds => .ok ds.reverse) = kRevS PL := by funext x; first | exact propext (Rp_bind _ _) | exact propext (Rp_bindOk _ _)
  rw [e]
@[simp] theorem wp_kRevS (x : D) : kRevS PL x ↔ Rp (kRev PL) (seqOf x) := Iff.rfl
def kRgL (PD : D → Prop) (x : D) : Prop := Rp (kLst PD) (rg1 x)
def kRgT (PD : D → Prop) (x : D) : Prop := Rp (kTup PD) (rg1 x)
@[simp] theorem wp_lstRg1 : Rp PD (eLstRg1 f en) ↔ Rp (kRgL PD) (f en) := by
  refine (Rp_bind _ _).trans ?_
  have e : kU PD (fun x => (rg1 x).bind fun ds => .ok (.lst ds)) = kRgL PD := by funext x; first | exact propext (Rp_bind _ _) | exact propext (Rp_bindOk _ _)
  rw [e]
@[simp] theorem wp_tupRg1 : Rp PD (eTupRg1 f en) ↔ Rp (kRgT PD) (f en) := by
  refine (Rp_bind _ _).trans ?_
  have e : kU PD (fun x => (rg1 x).bind fun ds => .ok (.tup ds)) = kRgT PD := by funext x; first | exact propext (Rp_bind _ _) | exact propext (Rp_bindOk _ _)
  rw [e]
@[simp] theorem wp_kRgL (x : D) : kRgL PD x ↔ Rp (kLst PD) (rg1 x) := Iff.rfl
@[simp] theorem wp_kRgT (x : D) : kRgT PD x ↔ Rp (kTup PD) (rg1 x) := Iff.rfl
def kRg2b (PL : List D → Prop) (x y : D) : Prop := Rp PL (rg2 x y)
def kRg2a (en : En) (PL : List D → Prop) (g : EF) (x : D) : Prop := Rp (kRg2b PL x) (g en)
@[simp] theorem wp_lstRg2 : Rp PD (eLstRg2 f g en) ↔ Rp (kRg2a en (kLst PD) g) (f en) := by
  refine (Rp_bind _ _).trans ?_
  have e : kU PD (fun x => (g en).bind fun y => (rg2 x y).bind fun ds => .ok (.lst ds)) = kRg2a en (kLst PD) g := by
    funext x
    refine propext ((Rp_bind _ _).trans ?_)
    have e : kU PD (fun y => (rg2 x y).bind fun ds => .ok (.lst ds)) = kRg2b (kLst PD) x := by funext y; first | exact propext (Rp_bind _ _) | exact propext (Rp_bindOk _ _)
    rw [e]; rfl
  rw [e]
@[simp] theorem wp_tupRg2 : Rp PD (eTupRg2 f g en) ↔ Rp (kRg2a en (kTup PD) g) (f en) := by
  refine (Rp_bind _ _).trans ?_
  have e : kU PD (fun x => (g en).bind fun y => (rg2 x y).bind fun ds => .ok (.tup ds)) = kRg2a en (kTup PD) g := by
    funext x
    refine propext ((Rp_bind _ _).trans ?_)
    have e : kU PD (fun y => (rg2 x y).bind fun ds => .ok (.tup ds)) = kRg2b (kTup PD) x := by funext y; first | exact propext (Rp_bind _ _) | exact propext (Rp_bindOk _ _)
    rw [e]; rfl
  rw [e]
@[simp] theorem wp_kRg2a (x : D) : kRg2a en PL g x ↔ Rp (kRg2b PL x) (g en) := Iff.rfl
@[simp] theorem wp_kRg2b (x y : D) : kRg2b PL x y ↔ Rp PL (rg2 x y) := Iff.rfl
/-! statements -/
@[simp] theorem wp_seq : Step N Rt Bk Ct (sSeq u v en) ↔ Step (kThen N Rt Bk Ct v) Rt Bk Ct (u en) := by
  unfold sSeq
  cases u en <;> simp [andThen, kThen]
@[simp] theorem wp_kThen (e : En) : kThen N Rt Bk Ct v e ↔ Step N Rt Bk Ct (v e) := Iff.rfl
@[simp] theorem wp_set (i : Nat) : Step N Rt Bk Ct (sSet i f en) ↔ Rp (kSet en N i) (f en) := by first | exact Step_lift _ _ | exact Step_liftNx _ _ | exact Step_liftRet _ _
@[simp] theorem wp_kSet (i : Nat) (d : D) : kSet en N i d ↔ N (en.set i (some d)) := Iff.rfl
@[simp] theorem wp_ret : Step N Rt Bk Ct (sRet f en) ↔ Rp Rt (f en) := by first | exact Step_lift _ _ | exact Step_liftNx _ _ | exact Step_liftRet _ _
@[simp] theorem wp_retN : Step N Rt Bk Ct (sRetN en) ↔ Rt .non := Step_ret _
@[simp] theorem wp_drop : Step N Rt Bk Ct (sDrop f en) ↔ Rp (kDrop en N) (f en) := by first | exact Step_lift _ _ | exact Step_liftNx _ _ | exact Step_liftRet _ _
@[simp] theorem wp_kDrop (d : D) : kDrop en N d ↔ N en := Iff.rfl
@[simp] theorem wp_sIf : Step N Rt Bk Ct (sIf c u v en) ↔ Rp (kIf en N Rt Bk Ct u v) (c en) := by
  refine (Step_liftB _ _).trans ?_
  have e : (fun b => Step N Rt Bk Ct (if b = true then u en else v en)) = kIf en N Rt Bk Ct u v := by funext b; cases b <;> rfl
  rw [e]
@[simp] theorem wp_kIf (b : Bool) : kIf en N Rt Bk Ct u v b ↔ if b = true then Step N Rt Bk Ct (u en) else Step N Rt Bk Ct (v en) := Iff.rfl
@[simp] theorem wp_sNx : Step N Rt Bk Ct (sNx en) ↔ N en := Step_nx _
@[simp] theorem wp_sBrk : Step N Rt Bk Ct (sBrk en) ↔ Bk en := Step_brk _
@[simp] theorem wp_sCnt : Step N Rt Bk Ct (sCnt en) ↔ Ct en := Step_cnt _
@[simp] theorem wp_sFor (it : IF) (t : TGF) : Step N Rt Bk Ct (sFor it t u en) ↔ Rp (kFor en N Rt Bk Ct t u) (it en) := Step_liftL _ _
@[simp] theorem wp_kFor (t : TGF) (ds : List D) : kFor en N Rt Bk Ct t u ds ↔ Step N Rt Bk Ct (forL t u ds en) := Iff.rfl
theorem slot_no {P : List D → D → Prop} {r : R D} {i : Nat} (h : ∀ ds, en[i]? ≠ some (some (.lst ds))) (hk : Rp (fun d => ∃ ds, en[i]? = some (some (.lst ds)) ∧ P ds d) r) : False := by
  cases r with
  | ok k => obtain ⟨ds, h', _⟩ := (Rp_ok _).mp hk; exact h ds h'
  | exc => exact nomatch hk
  | bad => exact nomatch hk
@[simp] theorem wp_app (i : Nat) : Step N Rt Bk Ct (sApp i f en) ↔ Rp (kApp en N i) (f en) := by
  unfold sApp
  split
  · rename_i ds h
    refine (Step_lift _ _).trans ?_
    have e : (fun d => Step N Rt Bk Ct (if ds.length < 16777216 then .nx (en.set i (some (.lst (ds ++ [d])))) else .bad)) = kApp en N i := by
      funext d
      refine propext ⟨fun hk => ?_, fun ⟨ds', h', hl, hk⟩ => ?_⟩
      · split at hk
        · rename_i hl; exact ⟨ds, h, hl, (Step_nx _).mp hk⟩
        · exact nomatch hk
      · rw [h] at h'; cases h'; rw [if_pos hl]; exact .nx hk
    rw [e]
  · rename_i h
    exact ⟨nofun, fun hk => (slot_no h hk).elim⟩
def slotApp (en : En) (N : En → Prop) (i : Nat) (d : D) : Option (Option D) → Prop
  | some (some (.lst ds)) => ds.length < 16777216 ∧ N (en.set i (some (.lst (ds ++ [d]))))
  | _ => False
@[simp] theorem wp_slotApp (i : Nat) (d : D) (ds : List D) : slotApp en N i d (some (some (.lst ds))) ↔ ds.length < 16777216 ∧ N (en.set i (some (.lst (ds ++ [d])))) := Iff.rfl
@[simp] theorem wp_kApp (i : Nat) (d : D) : kApp en N i d ↔ slotApp en N i d en[i]? := by
  unfold kApp slotApp
  generalize en[i]? = o
  split
  · rename_i ds
    exact ⟨fun ⟨ds', h', hk⟩ => by cases h'; exact hk, fun hk => ⟨ds, rfl, hk⟩⟩
  · rename_i h
    exact ⟨fun ⟨ds', h', hk⟩ => (h ds' h').elim, fun h => h.elim⟩
@[simp] theorem wp_put (i : Nat) : Step N Rt Bk Ct (sPut i f g en) ↔ Rp (kPut en N i g) (f en) := by
  unfold sPut
  refine (Step_lift _ _).trans ?_
  have e : (fun d => Step N Rt Bk Ct (match en[i]? with
    | some (some (.lst ds)) => lift (g en) en fun k => match k with
      | .int k => match ixN ds.length k with
        | some j => .nx (en.set i (some (.lst (ds.set j d))))
        | none => .bad
      | _ => .bad
    | _ => .bad)) = kPut en N i g := by
    funext d
    unfold kPut
    split
    · rename_i ds h
      refine propext ((Step_lift _ _).trans ?_)
      have e : (fun k => Step N Rt Bk Ct (match k with
          | D.int k => match ixN ds.length k with
            | some j => RF.nx (en.set i (some (.lst (ds.set j d))))
            | none => .bad
          | _ => .bad)) = kPut2 en N i d := by
        funext k
        refine propext ⟨fun hk => ?_, fun ⟨ds', n, e1, h', j, e2, hk⟩ => ?_⟩
        · split at hk
          · split at hk
            · rename_i j hj; exact ⟨ds, _, rfl, h, j, hj, (Step_nx _).mp hk⟩
            · exact nomatch hk
          · exact nomatch hk
        · rw [h] at h'; cases h'; subst e1; simp only [e2]; exact .nx hk
      rw [e]
    · rename_i h
      refine propext ⟨nofun, fun hk => ?_⟩
      cases q : g en with
      | ok k => rw [q] at hk; obtain ⟨ds, n, _, h', _⟩ := (Rp_ok _).mp hk; exact (h ds h').elim
      | exc => rw [q] at hk; exact nomatch hk
      | bad => rw [q] at hk; exact nomatch hk
  exact iff_of_eq (congrArg (fun k => Rp k (f en)) e)
@[simp] theorem wp_kPut (i : Nat) (d : D) : kPut en N i g d ↔ Rp (kPut2 en N i d) (g en) := Iff.rfl
def slotPut (en : En) (N : En → Prop) (i : Nat) (d : D) (n : Int) : Option (Option D) → Prop
  | some (some (.lst ds)) => ∃ j, ixN ds.length n = some j ∧ N (en.set i (some (.lst (ds.set j d))))
  | _ => False
@[simp] theorem wp_slotPut (i : Nat) (d : D) (n : Int) (ds : List D) : slotPut en N i d n (some (some (.lst ds))) ↔ ∃ j, ixN ds.length n = some j ∧ N (en.set i (some (.lst (ds.set j d)))) := Iff.rfl
@[simp] theorem wp_kPut2 (i : Nat) (d : D) (n : Int) : kPut2 en N i d (.int n) ↔ slotPut en N i d n en[i]? := by
  unfold kPut2 slotPut
  generalize en[i]? = o
  split
  · rename_i ds
    exact ⟨fun ⟨ds', n', e, h', hk⟩ => by cases e; cases h'; exact hk, fun hk => ⟨ds, n, rfl, rfl, hk⟩⟩
  · rename_i h
    exact ⟨fun ⟨ds', _, _, h', hk⟩ => (h ds' h').elim, fun h => h.elim⟩
@[simp] theorem wp_ext (i : Nat) : Step N Rt Bk Ct (sExt i f en) ↔ Rp (kExt en N i) (f en) := by
  unfold sExt
  split
  · rename_i ds h
    refine (Step_lift _ _).trans ?_
    have e : (fun d => Step N Rt Bk Ct (match d with
        | D.lst es => if ds.length + es.length ≤ 16777216 then RF.nx (en.set i (some (.lst (ds ++ es)))) else .bad
        | _ => .bad)) = kExt en N i := by
      funext d
      refine propext ⟨fun hk => ?_, fun ⟨ds', es, e1, h', hl, hk⟩ => ?_⟩
      · split at hk
        · split at hk
          · rename_i hl; exact ⟨ds, _, rfl, h, hl, (Step_nx _).mp hk⟩
          · exact nomatch hk
        · exact nomatch hk
      · rw [h] at h'; cases h'; subst e1; simp only; rw [if_pos hl]; exact .nx hk
    exact iff_of_eq (congrArg (fun k => Rp k (f en)) e)
  · rename_i h
    refine ⟨nofun, fun hk => ?_⟩
    cases q : f en with
    | ok k => rw [q] at hk; obtain ⟨ds, _, _, h', _⟩ := (Rp_ok _).mp hk; exact (h ds h').elim
    | exc => rw [q] at hk; exact nomatch hk
    | bad => rw [q] at hk; exact nomatch hk
def slotExt (en : En) (N : En → Prop) (i : Nat) (es : List D) : Option (Option D) → Prop
  | some (some (.lst ds)) => ds.length + es.length ≤ 16777216 ∧ N (en.set i (some (.lst (ds ++ es))))
  | _ => False
@[simp] theorem wp_slotExt (i : Nat) (es ds : List D) : slotExt en N i es (some (some (.lst ds))) ↔ ds.length + es.length ≤ 16777216 ∧ N (en.set i (some (.lst (ds ++ es)))) := Iff.rfl
@[simp] theorem wp_kExt (i : Nat) (es : List D) : kExt en N i (.lst es) ↔ slotExt en N i es en[i]? := by
  unfold kExt slotExt
  generalize en[i]? = o
  split
  · rename_i ds
    exact ⟨fun ⟨ds', es', e, h', hk⟩ => by cases e; cases h'; exact hk, fun hk => ⟨ds, es, rfl, rfl, hk⟩⟩
  · rename_i h
    exact ⟨fun ⟨ds', _, _, h', hk⟩ => (h ds' h').elim, fun h => h.elim⟩
@[simp] theorem wp_asg (t : TGF) : Step N Rt Bk Ct (sAsg t f en) ↔ Rp (kAsg en N t) (f en) := by
  refine (Step_lift _ _).trans ?_
  have e : (fun d => Step N Rt Bk Ct (match t d en with
      | some en' => RF.nx en'
      | none => .bad)) = kAsg en N t := by
    funext d
    refine propext ⟨fun hk => ?_, fun ⟨e, h, hk⟩ => ?_⟩
    · split at hk
      · rename_i e h; exact ⟨e, h, (Step_nx _).mp hk⟩
      · exact nomatch hk
    · rw [h]; exact .nx hk
  exact iff_of_eq (congrArg (fun k => Rp k (f en)) e)
@[simp] theorem wp_kAsg (t : TGF) (d : D) : kAsg en N t d ↔ ∃ e, t d en = some e ∧ N e := Iff.rfl
@[simp] theorem wp_fn (m : Nat) (body : SF) (ds : List D) : Rp PD (fnF m body ds) ↔ Step (fun _ => PD .non) PD (fun _ => False) (fun _ => False) (body (ds.map some ++ List.replicate (m - ds.length) none)) := by
  unfold fnF
  cases body (ds.map some ++ List.replicate (m - ds.length) none) <;> simp
@[simp] theorem ev_tgName (i : Nat) (d : D) : tgName i d en = some (en.set i (some d)) := rfl
@[simp] theorem ev_tgTup (w : List D → En → Option En) (ds : List D) : tgTup w (.tup ds) en = w ds en := rfl
@[simp] theorem ev_tgNil : tgNil [] en = some en := rfl
@[simp] theorem ev_tgConsN (i : Nat) (w : List D → En → Option En) (d : D) (ds : List D) : tgCons (tgName i) w (d :: ds) en = w ds (en.set i (some d)) := rfl
@[simp] theorem ev_lcEnT (ms own : List Nat) : lcEn true ms own en = wipeD en own := rfl
@[simp] theorem ev_lcEnF (ms own : List Nat) : lcEn false ms own en = wipeD (wipeD en own) ms := rfl
@[simp] theorem ev_wipe0 : wipeD en [] = en := rfl
@[simp] theorem ev_wipe (i : Nat) (vs : List Nat) : wipeD en (i :: vs) = (wipeD en vs).set i none := rfl
/-! the operations -/
@[simp] theorem ev_tr_non : isTr .non = .ok false := rfl
@[simp] theorem ev_tr_bl (b : Bool) : isTr (.bl b) = .ok b := rfl
@[simp] theorem ev_tr_int (i : Int) : isTr (.int i) = .ok (i != 0) := rfl
@[simp] theorem ev_tr_lst (xs : List D) : isTr (.lst xs) = .ok (!xs.isEmpty) := rfl
@[simp] theorem ev_tr_tup (xs : List D) : isTr (.tup xs) = .ok (!xs.isEmpty) := rfl
@[simp] theorem ev_blOf (b : Bool) : blOf (.bl b) = .ok b := rfl
@[simp] theorem ev_dI (k : Int → Int → D) (i j : Int) : dI k (.int i) (.int j) = .ok (k i j) := rfl
@[simp] theorem wp_dIc (C : Int → Int → Bool) (k : Int → Int → D) (i j : Int) : Rp PD (dIc C k (.int i) (.int j)) ↔ C i j = true ∧ PD (k i j) := by first | exact Rp_ite _ _ | exact Rp_iteOk _ _
@[simp] theorem ev_cMod (i j : Int) : cMod i j = decide (0 < j) := rfl
@[simp] theorem ev_cDiv (i j : Int) : cDiv i j = (decide (0 < j) && decide (j < 1073741824)) := rfl
@[simp] theorem ev_cPow (i j : Int) : cPow i j = (decide (0 ≤ j) && decide (j ≤ 1000000) && decide (i.natAbs < 2 ^ 64)) := rfl
@[simp] theorem ev_neg (i : Int) : dNeg (.int i) = .ok (.int (-i)) := rfl
@[simp] theorem ev_add (i j : Int) : dAdd (.int i) (.int j) = .ok (.int (i + j)) := rfl
@[simp] theorem wp_addS (i j : Str) : Rp PD (dAdd (.str i) (.str j)) ↔ i.length + j.length ≤ 16777216 ∧ PD (.str (i ++ j)) := by first | exact Rp_ite _ _ | exact Rp_iteOk _ _
@[simp] theorem wp_addL (i j : List D) : Rp PD (dAdd (.lst i) (.lst j)) ↔ i.length + j.length ≤ 16777216 ∧ PD (.lst (i ++ j)) := by first | exact Rp_ite _ _ | exact Rp_iteOk _ _
@[simp] theorem wp_addT (i j : List D) : Rp PD (dAdd (.tup i) (.tup j)) ↔ i.length + j.length ≤ 16777216 ∧ PD (.tup (i ++ j)) := by first | exact Rp_ite _ _ | exact Rp_iteOk _ _
@[simp] theorem wp_mul (i j : Int) : Rp PD (dMul (.int i) (.int j)) ↔ (i.natAbs < 2 ^ 64 ∨ j.natAbs < 2 ^ 64) ∧ PD (.int (i * j)) := by first | exact Rp_ite _ _ | exact Rp_iteOk _ _
@[simp] theorem wp_mulL (i : List D) (j : Int) : Rp PD (dMul (.lst i) (.int j)) ↔ (j ≤ 16777216 ∧ -16777216 ≤ j ∧ i.length * j.toNat ≤ 16777216) ∧ PD (.lst (List.replicate j.toNat i).flatten) := by first | exact Rp_ite _ _ | exact Rp_iteOk _ _
@[simp] theorem wp_repL (i : List D) (j : Int) : Rp PD (dRepL (.lst i) (.int j)) ↔ (j ≤ 16777216 ∧ -16777216 ≤ j ∧ i.length * j.toNat ≤ 16777216) ∧ PD (.lst (List.replicate j.toNat i).flatten) := by first | exact Rp_ite _ _ | exact Rp_iteOk _ _
@[simp] theorem ev_lenL (xs : List D) : dLen [.lst xs] = .ok (.int xs.length) := rfl
@[simp] theorem ev_lenT (xs : List D) : dLen [.tup xs] = .ok (.int xs.length) := rfl
@[simp] theorem ev_lenC (xs : List Int) : dLen [.scr xs] = .ok (.int xs.length) := rfl
@[simp] theorem wp_lenS (z : Str) : Rp PD (dLen [.str z]) ↔ z.length ≤ 16777216 ∧ PD (.int z.length) := by first | exact Rp_ite _ _ | exact Rp_iteOk _ _
@[simp] theorem ev_int (i : Int) : dInt [.int i] = .ok (.int i) := rfl
@[simp] theorem ev_abs (i : Int) : dAbs [.int i] = .ok (.int (if i < 0 then -i else i)) := rfl
@[simp] theorem ev_listL (xs : List D) : dListOf [.lst xs] = .ok (.lst xs) := rfl
@[simp] theorem ev_listT (xs : List D) : dListOf [.tup xs] = .ok (.lst xs) := rfl
@[simp] theorem ev_listC (xs : List Int) : dListOf [.scr xs] = .ok (.lst (xs.map .int)) := rfl
@[simp] theorem ev_tupL (xs : List D) : dTupOf [.lst xs] = .ok (.tup xs) := rfl
@[simp] theorem ev_tupT (xs : List D) : dTupOf [.tup xs] = .ok (.tup xs) := rfl
@[simp] theorem ev_max2 (i j : Int) : dMax2 [.int i, .int j] = .ok (.int (if j > i then j else i)) := rfl
@[simp] theorem ev_min2 (i j : Int) : dMin2 [.int i, .int j] = .ok (.int (if j < i then j else i)) := rfl
@[simp] theorem ev_cutL (xs : List D) (lo hi : Option Int) : dCut (.lst xs) lo hi = .ok (.lst (cutD xs lo hi)) := rfl
@[simp] theorem ev_cutT (xs : List D) (lo hi : Option Int) : dCut (.tup xs) lo hi = .ok (.tup (cutD xs lo hi)) := rfl
@[simp] theorem wp_cutS (z : Str) (lo hi : Option Int) : Rp PD (dCut (.str z) lo hi) ↔ z.length ≤ 16777216 ∧ PD (.str (cutS z lo hi)) := by first | exact Rp_ite _ _ | exact Rp_iteOk _ _
@[simp] theorem ev_flat_int (i : Int) : isFlat (.int i) = true := rfl
@[simp] theorem ev_flat_str (i : Str) : isFlat (.str i) = true := rfl
@[simp] theorem ev_flat_non : isFlat .non = true := rfl
@[simp] theorem ev_flat_bl (b : Bool) : isFlat (.bl b) = true := rfl
@[simp] theorem ev_seqL (xs : List D) : seqOf (.lst xs) = .ok xs := rfl
@[simp] theorem ev_seqT (xs : List D) : seqOf (.tup xs) = .ok xs := rfl
@[simp] theorem ev_seqC (xs : List Int) : seqOf (.scr xs) = .ok (xs.map .int) := rfl
@[simp] theorem ev_lstOf (xs : List D) : lstOf (.lst xs) = .ok xs := rfl
theorem small_int {j : Int} (h : -1000000000 ≤ j ∧ j ≤ 1000000000) : rgOk j = true := by
  simp only [rgOk, Bool.and_eq_true, decide_eq_true_eq]
  exact ⟨by omega, by omega⟩
/-- a number that range takes -/
@[simp] theorem wp_range1 (j : Int) : Rp PL (range1 (.int j)) ↔ rgOk j = true ∧ PL (rangeD 0 j) := by first | exact Rp_ite _ _ | exact Rp_iteOk _ _
@[simp] theorem wp_range2 (i j : Int) : Rp PL (range2 (.int i) (.int j)) ↔ (rgOk i = true ∧ rgOk j = true) ∧ PL (rangeD i j) := (Rp_ite _ _).trans (by rw [Bool.and_eq_true, Rp_ok])
@[simp] theorem rgOk_nat (n : Nat) : rgOk (n : Int) = decide (n < 2 ^ 62) := by
  unfold rgOk
  by_cases h : n < 2 ^ 62
  · simp [h]; omega
  · simp [h]; omega
theorem wp_rg1 {j : Int} (h : -16777216 ≤ j ∧ j ≤ 16777216) : rg1 (.int j) = .ok (rangeD 0 j) := by
  show rangeL 0 j = _
  unfold rangeL
  rw [if_pos]
  simp only [small24, Bool.and_eq_true, decide_eq_true_eq]; omega
theorem wp_rg2 {i j : Int} (hi : -16777216 ≤ i ∧ i ≤ 16777216) (h : -16777216 ≤ j ∧ j ≤ 16777216) (hd : j - i ≤ 16777216) : rg2 (.int i) (.int j) = .ok (rangeD i j) := by
  show rangeL i j = _
  unfold rangeL
  rw [if_pos]
  simp only [small24, Bool.and_eq_true, decide_eq_true_eq]; omega
@[simp] theorem ev_isN_non : dIsN .non .non = .ok (.bl true) := rfl
@[simp] theorem ev_isN_int (i : Int) : dIsN (.int i) .non = .ok (.bl false) := rfl
@[simp] theorem ev_isN_bl (i : Bool) : dIsN (.bl i) .non = .ok (.bl false) := rfl
@[simp] theorem ev_isN_str (i : Str) : dIsN (.str i) .non = .ok (.bl false) := rfl
@[simp] theorem ev_isN_lst (i : List D) : dIsN (.lst i) .non = .ok (.bl false) := rfl
@[simp] theorem ev_isN_tup (i : List D) : dIsN (.tup i) .non = .ok (.bl false) := rfl
@[simp] theorem ev_notN_non : dNotN .non .non = .ok (.bl false) := rfl
@[simp] theorem ev_notN_int (i : Int) : dNotN (.int i) .non = .ok (.bl true) := rfl
@[simp] theorem ev_notN_bl (i : Bool) : dNotN (.bl i) .non = .ok (.bl true) := rfl
@[simp] theorem ev_notN_str (i : Str) : dNotN (.str i) .non = .ok (.bl true) := rfl
@[simp] theorem ev_notN_lst (i : List D) : dNotN (.lst i) .non = .ok (.bl true) := rfl
@[simp] theorem ev_notN_tup (i : List D) : dNotN (.tup i) .non = .ok (.bl true) := rfl
@[simp] theorem ev_eqI (i j : Int) : dEq (.int i) (.int j) = .ok (.bl (decide (i = j))) := rfl
@[simp] theorem ev_eqS (i j : Str) : dEq (.str i) (.str j) = .ok (.bl (decide (i = j))) := rfl
@[simp] theorem ev_neI (i j : Int) : dNe (.int i) (.int j) = .ok (.bl (!decide (i = j))) := rfl
@[simp] theorem ev_neS (i j : Str) : dNe (.str i) (.str j) = .ok (.bl (!decide (i = j))) := rfl
@[simp] theorem ev_eqNS (j : Str) : dEq .non (.str j) = .ok (.bl false) := rfl
@[simp] theorem ev_eqSN (j : Str) : dEq (.str j) .non = .ok (.bl false) := rfl
@[simp] theorem ev_eqNI (j : Int) : dEq .non (.int j) = .ok (.bl false) := rfl
@[simp] theorem ev_eqIN (j : Int) : dEq (.int j) .non = .ok (.bl false) := rfl
@[simp] theorem ev_eqNN : dEq .non .non = .ok (.bl true) := rfl
@[simp] theorem ev_neNS (j : Str) : dNe .non (.str j) = .ok (.bl true) := rfl
@[simp] theorem ev_neSN (j : Str) : dNe (.str j) .non = .ok (.bl true) := rfl
@[simp] theorem ev_neNN : dNe .non .non = .ok (.bl false) := rfl
/-! places -/
@[simp] theorem wp_ixL (ds : List D) (i : Int) : Rp PD (dIx (.lst ds) (.int i)) ↔ ∃ d, atI ds i = some d ∧ PD d := by
  show Rp PD (match atI ds i with | some d => .ok d | none => .bad) ↔ _
  cases atI ds i <;> simp
@[simp] theorem wp_ixT (ds : List D) (i : Int) : Rp PD (dIx (.tup ds) (.int i)) ↔ ∃ d, atI ds i = some d ∧ PD d := by
  show Rp PD (match atI ds i with | some d => .ok d | none => .bad) ↔ _
  cases atI ds i <;> simp
@[simp] theorem wp_ixC (ds : List Int) (i : Int) : Rp PD (dIx (.scr ds) (.int i)) ↔ ∃ d, atI ds i = some d ∧ PD (.int d) := by
  show Rp PD (match atI ds i with | some d => .ok (.int d) | none => .bad) ↔ _
  cases atI ds i <;> simp
@[simp] theorem wp_ixS (z : Str) (i : Int) : Rp PD (dIx (.str z) (.int i)) ↔ z.length ≤ 16777216 ∧ ∃ c, atI z.cps.toList i = some c ∧ PD (.str ⟨#[c]⟩) := by
  refine (Rp_ite _ _).trans (and_congr_right fun _ => ?_)
  cases atI z.cps.toList i <;> simp
theorem atI_mapS {α β : Type} (f : α → β) (l : List α) (i : Int) : atI (l.map f) i = (atI l i).map f := by
  unfold atI
  rw [List.length_map]
  cases ixN l.length i with
  | none => rfl
  | some j => exact List.getElem?_map
theorem at_nat {α : Type} (l : List α) (i : Nat) : atI l (i : Int) = l[i]? := by
  unfold atI ixN
  rw [if_pos (by omega)]
  split
  · rw [Int.toNat_natCast]; rfl
  · rw [List.getElem?_eq_none (by omega)]; rfl
@[simp] theorem atI_0 {α : Type} (a : α) (l : List α) : atI (a :: l) 0 = some a := at_nat (a :: l) 0
@[simp] theorem atI_1 {α : Type} (a b : α) (l : List α) : atI (a :: b :: l) 1 = some b := at_nat (a :: b :: l) 1
@[simp] theorem atI_2 {α : Type} (a b c : α) (l : List α) : atI (a :: b :: c :: l) 2 = some c := at_nat (a :: b :: c :: l) 2
@[simp] theorem ix_lst0 (d : D) (ds : List D) : dIx (.lst (d :: ds)) (.int 0) = .ok d := by
  show (match atI (d :: ds) 0 with | some d => R.ok d | none => R.bad) = _
  rw [atI_0]
@[simp] theorem ix_lst1 (d d' : D) (ds : List D) : dIx (.lst (d :: d' :: ds)) (.int 1) = .ok d' := by
  show (match atI (d :: d' :: ds) 1 with | some d => R.ok d | none => R.bad) = _
  rw [atI_1]
@[simp] theorem ix_lst2 (d d' d2 : D) (ds : List D) : dIx (.lst (d :: d' :: d2 :: ds)) (.int 2) = .ok d2 := by
  show (match atI (d :: d' :: d2 :: ds) 2 with | some d => R.ok d | none => R.bad) = _
  rw [atI_2]
@[simp] theorem ix_tup0 (d : D) (ds : List D) : dIx (.tup (d :: ds)) (.int 0) = .ok d := by
  show (match atI (d :: ds) 0 with | some d => R.ok d | none => R.bad) = _
  rw [atI_0]
@[simp] theorem ix_tup1 (d d' : D) (ds : List D) : dIx (.tup (d :: d' :: ds)) (.int 1) = .ok d' := by
  show (match atI (d :: d' :: ds) 1 with | some d => R.ok d | none => R.bad) = _
  rw [atI_1]
@[simp] theorem ix_tup2 (d d' d2 : D) (ds : List D) : dIx (.tup (d :: d' :: d2 :: ds)) (.int 2) = .ok d2 := by
  show (match atI (d :: d' :: d2 :: ds) 2 with | some d => R.ok d | none => R.bad) = _
  rw [atI_2]
theorem at_some {α : Type} {l : List α} {i : Int} (h0 : 0 ≤ i) (h1 : i < l.length) : atI l i = some (l[i.toNat]'(by omega)) := by
  obtain ⟨n, rfl⟩ : ∃ n : Nat, i = n := ⟨i.toNat, by omega⟩
  rw [at_nat, List.getElem?_eq_getElem (by omega)]
  simp
@[simp high] theorem wp_ixLm {γ : Type} (fm : γ → D) (l : List γ) (i : Int) : Rp PD (dIx (.lst (l.map fm)) (.int i)) ↔ ∃ a, atI l i = some a ∧ PD (fm a) := by
  rw [wp_ixL, atI_mapS]
  cases atI l i <;> simp
@[simp high] theorem wp_ixTm {γ : Type} (fm : γ → D) (l : List γ) (i : Int) : Rp PD (dIx (.tup (l.map fm)) (.int i)) ↔ ∃ a, atI l i = some a ∧ PD (fm a) := by
  rw [wp_ixT, atI_mapS]
  cases atI l i <;> simp
theorem ixN_nat {n k : Nat} (h : k < n) : ixN n (k : Int) = some k := by
  unfold ixN
  rw [if_pos (by omega), if_pos (by omega), Int.toNat_natCast]
theorem ixN_pos {n : Nat} {i : Int} (h : 0 ≤ i) (h' : i < n) : ixN n i = some i.toNat := by
  unfold ixN
  rw [if_pos h, if_pos h']
theorem ixN_neg1 {n : Nat} (h : 0 < n) : ixN n (-1) = some (n - 1) := by
  unfold ixN
  rw [if_neg (by omega), if_pos (by omega)]
  congr 1; omega
theorem at_ex {α : Type} {l : List α} {i : Int} (h0 : 0 ≤ i) (h1 : i < l.length) : ∃ a, atI l i = some a ∧ a ∈ l := ⟨_, at_some h0 h1, List.getElem_mem _⟩
theorem at_mem {α : Type} {l : List α} {i : Int} {a : α} (h : atI l i = some a) : a ∈ l := by
  unfold atI at h
  cases q : ixN l.length i with
  | none => rw [q] at h; cases h
  | some j => rw [q] at h; exact List.mem_of_getElem? h
theorem isI_of {c t : String} {d : D} {b : Bool} (h : tyD d = some t) (k : kitB t c = some b) : dIsI c d = .ok (.bl b) := by
  unfold dIsI; rw [h]; show (match kitB t c with | some b => R.ok (D.bl b) | none => R.bad) = _; rw [k]
@[simp] theorem isI_bool_NoneType : dIsI "bool" (.non) = .ok (.bl false) := isI_of rfl (by decide +kernel)
@[simp] theorem isI_bool_bool (b : Bool) : dIsI "bool" (.bl b) = .ok (.bl true) := isI_of rfl (by decide +kernel)
@[simp] theorem isI_bool_int (i : Int) : dIsI "bool" (.int i) = .ok (.bl false) := isI_of rfl (by decide +kernel)
@[simp] theorem isI_bool_str (z : Str) : dIsI "bool" (.str z) = .ok (.bl false) := isI_of rfl (by decide +kernel)
@[simp] theorem isI_bool_list (ds : List D) : dIsI "bool" (.lst ds) = .ok (.bl false) := isI_of rfl (by decide +kernel)
@[simp] theorem isI_bool_tuple (ds : List D) : dIsI "bool" (.tup ds) = .ok (.bl false) := isI_of rfl (by decide +kernel)
@[simp] theorem isI_bool_dict (ds : List (Key × D)) : dIsI "bool" (.dK ds) = .ok (.bl false) := isI_of rfl (by decide +kernel)
@[simp] theorem isI_int_NoneType : dIsI "int" (.non) = .ok (.bl false) := isI_of rfl (by decide +kernel)
@[simp] theorem isI_int_bool (b : Bool) : dIsI "int" (.bl b) = .ok (.bl true) := isI_of rfl (by decide +kernel)
@[simp] theorem isI_int_int (i : Int) : dIsI "int" (.int i) = .ok (.bl true) := isI_of rfl (by decide +kernel)
@[simp] theorem isI_int_str (z : Str) : dIsI "int" (.str z) = .ok (.bl false) := isI_of rfl (by decide +kernel)
@[simp] theorem isI_int_list (ds : List D) : dIsI "int" (.lst ds) = .ok (.bl false) := isI_of rfl (by decide +kernel)
@[simp] theorem isI_int_tuple (ds : List D) : dIsI "int" (.tup ds) = .ok (.bl false) := isI_of rfl (by decide +kernel)
@[simp] theorem isI_int_dict (ds : List (Key × D)) : dIsI "int" (.dK ds) = .ok (.bl false) := isI_of rfl (by decide +kernel)
@[simp] theorem isI_str_NoneType : dIsI "str" (.non) = .ok (.bl false) := isI_of rfl (by decide +kernel)
@[simp] theorem isI_str_bool (b : Bool) : dIsI "str" (.bl b) = .ok (.bl false) := isI_of rfl (by decide +kernel)
@[simp] theorem isI_str_int (i : Int) : dIsI "str" (.int i) = .ok (.bl false) := isI_of rfl (by decide +kernel)
@[simp] theorem isI_str_str (z : Str) : dIsI "str" (.str z) = .ok (.bl true) := isI_of rfl (by decide +kernel)
@[simp] theorem isI_str_list (ds : List D) : dIsI "str" (.lst ds) = .ok (.bl false) := isI_of rfl (by decide +kernel)
@[simp] theorem isI_str_tuple (ds : List D) : dIsI "str" (.tup ds) = .ok (.bl false) := isI_of rfl (by decide +kernel)
@[simp] theorem isI_str_dict (ds : List (Key × D)) : dIsI "str" (.dK ds) = .ok (.bl false) := isI_of rfl (by decide +kernel)
@[simp] theorem isI_list_NoneType : dIsI "list" (.non) = .ok (.bl false) := isI_of rfl (by decide +kernel)
@[simp] theorem isI_list_bool (b : Bool) : dIsI "list" (.bl b) = .ok (.bl false) := isI_of rfl (by decide +kernel)
@[simp] theorem isI_list_int (i : Int) : dIsI "list" (.int i) = .ok (.bl false) := isI_of rfl (by decide +kernel)
@[simp] theorem isI_list_str (z : Str) : dIsI "list" (.str z) = .ok (.bl false) := isI_of rfl (by decide +kernel)
@[simp] theorem isI_list_list (ds : List D) : dIsI "list" (.lst ds) = .ok (.bl true) := isI_of rfl (by decide +kernel)
@[simp] theorem isI_list_tuple (ds : List D) : dIsI "list" (.tup ds) = .ok (.bl false) := isI_of rfl (by decide +kernel)
@[simp] theorem isI_list_dict (ds : List (Key × D)) : dIsI "list" (.dK ds) = .ok (.bl false) := isI_of rfl (by decide +kernel)
@[simp] theorem isI_tuple_NoneType : dIsI "tuple" (.non) = .ok (.bl false) := isI_of rfl (by decide +kernel)
@[simp] theorem isI_tuple_bool (b : Bool) : dIsI "tuple" (.bl b) = .ok (.bl false) := isI_of rfl (by decide +kernel)
@[simp] theorem isI_tuple_int (i : Int) : dIsI "tuple" (.int i) = .ok (.bl false) := isI_of rfl (by decide +kernel)
@[simp] theorem isI_tuple_str (z : Str) : dIsI "tuple" (.str z) = .ok (.bl false) := isI_of rfl (by decide +kernel)
@[simp] theorem isI_tuple_list (ds : List D) : dIsI "tuple" (.lst ds) = .ok (.bl false) := isI_of rfl (by decide +kernel)
@[simp] theorem isI_tuple_tuple (ds : List D) : dIsI "tuple" (.tup ds) = .ok (.bl true) := isI_of rfl (by decide +kernel)
@[simp] theorem isI_tuple_dict (ds : List (Key × D)) : dIsI "tuple" (.dK ds) = .ok (.bl false) := isI_of rfl (by decide +kernel)
@[simp] theorem isI_dict_NoneType : dIsI "dict" (.non) = .ok (.bl false) := isI_of rfl (by decide +kernel)
@[simp] theorem isI_dict_bool (b : Bool) : dIsI "dict" (.bl b) = .ok (.bl false) := isI_of rfl (by decide +kernel)
@[simp] theorem isI_dict_int (i : Int) : dIsI "dict" (.int i) = .ok (.bl false) := isI_of rfl (by decide +kernel)
@[simp] theorem isI_dict_str (z : Str) : dIsI "dict" (.str z) = .ok (.bl false) := isI_of rfl (by decide +kernel)
@[simp] theorem isI_dict_list (ds : List D) : dIsI "dict" (.lst ds) = .ok (.bl false) := isI_of rfl (by decide +kernel)
@[simp] theorem isI_dict_tuple (ds : List D) : dIsI "dict" (.tup ds) = .ok (.bl false) := isI_of rfl (by decide +kernel)
@[simp] theorem isI_dict_dict (ds : List (Key × D)) : dIsI "dict" (.dK ds) = .ok (.bl true) := isI_of rfl (by decide +kernel)
@[simp] theorem isB_non (b : Bool) : dIsB .non (.bl b) = .ok (.bl false) := rfl
@[simp] theorem isB_bl (a b : Bool) : dIsB (.bl a) (.bl b) = .ok (.bl (decide (a = b))) := rfl
@[simp] theorem isB_int (i : Int) (b : Bool) : dIsB (.int i) (.bl b) = .ok (.bl false) := rfl
@[simp] theorem isB_str (i : Str) (b : Bool) : dIsB (.str i) (.bl b) = .ok (.bl false) := rfl
@[simp] theorem isB_lst (i : List D) (b : Bool) : dIsB (.lst i) (.bl b) = .ok (.bl false) := rfl
@[simp] theorem isB_tup (i : List D) (b : Bool) : dIsB (.tup i) (.bl b) = .ok (.bl false) := rfl
/-! using what is known -/
theorem Rp.imp {r : R α} (h : Rp P r) (k : ∀ a, P a → Q a) : Rp Q r := by
  cases h with
  | ok h => exact .ok (k _ h)
theorem Rp.get {r : R α} (h : Rp P r) : ∃ a, r = .ok a ∧ P a := by
  cases h with
  | ok h => exact ⟨_, rfl, h⟩
theorem Rp.of {r : R α} {a : α} (e : r = .ok a) (h : P a) : Rp P r := by rw [e]; exact .ok h
theorem Rp.eq {r : R α} {a : α} (h : Rp (fun b => b = a) r) : r = .ok a := by obtain ⟨b, e, rfl⟩ := h.get; exact e
theorem Step.imp {r : RF} (h : Step N Rt Bk Ct r) (k : ∀ e, N e → N' e) : Step N' Rt Bk Ct r := by
  cases h with
  | nx h => exact .nx (k _ h)
  | ret h => exact .ret h
  | brk h => exact .brk h
  | cnt h => exact .cnt h
theorem Step.imp2 {r : RF} (h : Step N Rt Bk Ct r) (k : ∀ e, N e → N' e) (k2 : ∀ e, Rt e → Rt' e) : Step N' Rt' Bk Ct r := by
  cases h with
  | nx h => exact .nx (k _ h)
  | ret h => exact .ret (k2 _ h)
  | brk h => exact .brk h
  | cnt h => exact .cnt h
theorem cutD_to {α : Type} (xs : List α) (k : Nat) : cutD xs none (some (k : Int)) = xs.take k := by
  unfold cutD
  rw [HT.sIx_nat, HT.sIx_none]
  simp
theorem cutD_from {α : Type} (xs : List α) (k : Nat) : cutD xs (some (k : Int)) none = xs.drop k := by
  unfold cutD
  rw [HT.sIx_nat, HT.sIx_none]
  by_cases h : k ≤ xs.length
  · rw [Nat.min_eq_left h, List.take_of_length_le (by simp)]
  · rw [Nat.min_eq_right (by omega)]; simp; omega
theorem rangeD_nat (n : Nat) : rangeD 0 (n : Int) = (List.range n).map fun (i : Nat) => .int (i : Int) := by
  unfold rangeD
  simp
theorem rangeD_mem {lo hi : Int} {d : D} (h : d ∈ rangeD lo hi) : ∃ i : Int, d = .int i ∧ lo ≤ i ∧ i < hi := by
  unfold rangeD at h
  obtain ⟨i, hi', rfl⟩ := List.mem_map.mp h
  rw [List.mem_range] at hi'
  exact ⟨_, rfl, by omega, by omega⟩
theorem rangeD_get {lo hi : Int} {i : Nat} {d : D} (h : (rangeD lo hi)[i]? = some d) : d = .int (lo + i) ∧ lo + i < hi := by
  unfold rangeD at h
  rw [List.getElem?_map] at h
  obtain ⟨k, hk, rfl⟩ := Option.map_eq_some_iff.mp h
  obtain ⟨hk1, hk2⟩ := List.getElem?_eq_some_iff.mp hk
  rw [List.getElem_range] at hk2
  subst hk2
  rw [List.length_range] at hk1
  exact ⟨rfl, by omega⟩
theorem rangeD_length (lo hi : Int) : (rangeD lo hi).length = (hi - lo).toNat := by unfold rangeD; simp

/-- a comprehension: which items, and what of each -/
theorem lcL_eq {bo : Bool} {t : TGF} {c : CF} {f : EF} {en : En} (p : D → Bool) (g : D → D) : ∀ {ds acc : List D},
    (∀ d ∈ ds, ∃ en1, t d en = some en1 ∧ c en1 = .ok (p d) ∧ (p d = true → f en1 = .ok (g d) ∧ (bo = true → isFlat (g d) = true))) → ds.length + acc.length ≤ 16777216 →
    lcL bo t c f en ds acc = .ok (acc ++ (ds.filter p).map g)
  | [], acc, _, _ => by unfold lcL; simp
  | d :: ds, acc, hs, hl => by
    obtain ⟨en1, h1, h2, h3⟩ := hs d List.mem_cons_self
    unfold lcL
    simp only [h1, h2]
    rw [List.length_cons] at hl
    cases q : p d with
    | true =>
      obtain ⟨h4, h5⟩ := h3 q
      simp only [h4]
      rw [if_pos ⟨by omega, h5⟩, lcL_eq p g (fun d hd => hs d (List.mem_cons_of_mem _ hd)) (by rw [List.length_append]; simp; omega), List.filter_cons_of_pos q]
      simp
    | false =>
      simp only
      rw [lcL_eq p g (fun d hd => hs d (List.mem_cons_of_mem _ hd)) (by omega), List.filter_cons_of_neg (by rw [q]; decide)]
/-- each item gives one -/
theorem lcL_map {bo : Bool} {t : TGF} {f : EF} {en : En} (g : D → D) {ds : List D}
    (hs : ∀ d ∈ ds, ∃ en1, t d en = some en1 ∧ f en1 = .ok (g d) ∧ (bo = true → isFlat (g d) = true)) (hl : ds.length ≤ 16777216) :
    lcL bo t cYes f en ds [] = .ok (ds.map g) := by
  rw [lcL_eq (fun _ => true) g (fun d hd => by obtain ⟨en1, h1, h2, h3⟩ := hs d hd; exact ⟨en1, h1, rfl, fun _ => ⟨h2, h3⟩⟩) (by simpa using hl)]
  rw [List.filter_eq_self.mpr fun _ _ => rfl]; rfl
/-- each item gives one of a kind -/
theorem lcL_some {bo : Bool} {t : TGF} {f : EF} {en : En} (P : D → D → Prop) : ∀ {ds acc : List D},
    (∀ d ∈ ds, ∃ en1 y, t d en = some en1 ∧ f en1 = .ok y ∧ (bo = true → isFlat y = true) ∧ P d y) → ds.length + acc.length ≤ 16777216 →
    ∃ ys : List D, lcL bo t cYes f en ds acc = .ok (acc ++ ys) ∧ ys.length = ds.length ∧ ∀ (i : Nat) d y, ds[i]? = some d → ys[i]? = some y → P d y
  | [], acc, _, _ => ⟨[], by unfold lcL; simp, rfl, fun i d y h => by simp at h⟩
  | d :: ds, acc, hs, hl => by
    obtain ⟨en1, y, h1, h2, h3, h4⟩ := hs d List.mem_cons_self
    rw [List.length_cons] at hl
    obtain ⟨ys, e1, e2, e3⟩ := lcL_some (bo := bo) (t := t) (f := f) (en := en) P (ds := ds) (acc := acc ++ [y]) (fun d hd => hs d (List.mem_cons_of_mem _ hd)) (by rw [List.length_append]; simp; omega)
    refine ⟨y :: ys, ?_, by simp [e2], fun i d' y' hd hy => ?_⟩
    · unfold lcL
      simp only [h1, cYes, h2]
      rw [if_pos ⟨by omega, h3⟩, e1]
      simp
    · cases i with
      | zero => simp at hd hy; subst hd; subst hy; exact h4
      | succ i => exact e3 i d' y' (by simpa using hd) (by simpa using hy)
theorem Step.nil {t : TGF} {f : SF} : Step N Rt Bk Ct (forL t f [] en) ↔ N en := Step_nx _
theorem Step.cons {t : TGF} {f : SF} {d : D} {ds : List D} {en1 : En} (h : t d en = some en1) :
    Step N Rt Bk Ct (forL t f (d :: ds) en) ↔ Step (fun e => Step N Rt Bk Ct (forL t f ds e)) Rt N (fun e => Step N Rt Bk Ct (forL t f ds e)) (f en1) := by
  conv => lhs; unfold forL
  rw [h]
  dsimp only
  cases f en1 <;> simp
/-- a loop -/
theorem Step.loop {t : TGF} {f : SF} : ∀ {ds : List D} {en : En} (I : Nat → En → Prop), I 0 en →
    (∀ i d en, ds[i]? = some d → I i en → ∃ en1, t d en = some en1 ∧ Step (I (i + 1)) Rt N (I (i + 1)) (f en1)) → (∀ en, I ds.length en → N en) → Step N Rt Bk Ct (forL t f ds en)
  | [], en, I, h0, hs, hq => .nx (hq en h0)
  | d :: ds, en, I, h0, hs, hq => by
    obtain ⟨en1, h1, h2⟩ := hs 0 d en rfl h0
    unfold forL
    rw [h1]
    dsimp only
    have ih : ∀ e, I 1 e → Step N Rt Bk Ct (forL t f ds e) := fun e he => Step.loop (fun i => I (i + 1)) he (fun i d en e h => hs (i + 1) d en e h) hq
    revert h2
    generalize f en1 = r
    intro h2
    cases h2 with
    | nx h => exact ih _ h
    | cnt h => exact ih _ h
    | brk h => exact .nx h
    | ret h => exact .ret h
theorem Rp.lc {P : List D → Prop} {bo : Bool} {t : TGF} {c : CF} {f : EF} {en : En} {ds : List D} (p : D → Bool) (g : D → D)
    (hs : ∀ d ∈ ds, ∃ en1, t d en = some en1 ∧ Rp (fun b => b = p d) (c en1) ∧ (p d = true → Rp (fun y => y = g d ∧ (bo = true → isFlat y = true)) (f en1))) (hl : ds.length ≤ 16777216)
    (hq : P ((ds.filter p).map g)) : Rp P (lcL bo t c f en ds []) := by
  rw [lcL_eq p g (fun d hd => ?_) (by simpa using hl)]
  · exact .ok hq
  · obtain ⟨en1, h1, h2, h3⟩ := hs d hd
    obtain ⟨b, e1, rfl⟩ := h2.get
    refine ⟨en1, h1, e1, fun hp => ?_⟩
    obtain ⟨y, e2, rfl, h4⟩ := (h3 hp).get
    exact ⟨e2, h4⟩
theorem Rp.lcSome {P : List D → Prop} {bo : Bool} {t : TGF} {f : EF} {en : En} {ds : List D} (G : D → D → Prop)
    (hs : ∀ d ∈ ds, ∃ en1, t d en = some en1 ∧ Rp (fun y => G d y ∧ (bo = true → isFlat y = true)) (f en1)) (hl : ds.length ≤ 16777216)
    (hq : ∀ ys : List D, ys.length = ds.length → (∀ (i : Nat) d y, ds[i]? = some d → ys[i]? = some y → G d y) → P ys) : Rp P (lcL bo t cYes f en ds []) := by
  obtain ⟨ys, h1, h2, h3⟩ := lcL_some (bo := bo) (t := t) (f := f) (en := en) G (ds := ds) (acc := []) (fun d hd => by
    obtain ⟨en1, h1, h2⟩ := hs d hd
    obtain ⟨y, e, h3, h4⟩ := h2.get
    exact ⟨en1, y, h1, e, h4, h3⟩) (by simpa using hl)
  rw [h1]
  exact .ok (hq ys h2 h3)
end
/-- a list of data, seen as the picture of a typed list -/
theorem map_of_all {α : Type} (f : α → D) : ∀ {ds : List D}, (∀ d ∈ ds, ∃ a, d = f a) → ∃ l : List α, ds = l.map f
  | [], _ => ⟨[], rfl⟩
  | d :: ds, h => by
    obtain ⟨a, rfl⟩ := h d List.mem_cons_self
    obtain ⟨l, rfl⟩ := map_of_all f (ds := ds) fun d hd => h d (List.mem_cons_of_mem _ hd)
    exact ⟨a :: l, rfl⟩
/-! ### numbers in a row -/
def rangeI (lo hi : Int) : List Int := (List.range (hi - lo).toNat).map fun (i : Nat) => lo + i
theorem rangeD_eq (lo hi : Int) : rangeD lo hi = (rangeI lo hi).map .int := by
  unfold rangeD rangeI
  rw [List.map_map]; rfl
theorem mem_rangeI {lo hi i : Int} : i ∈ rangeI lo hi ↔ lo ≤ i ∧ i < hi := by
  unfold rangeI
  rw [List.mem_map]
  constructor
  · rintro ⟨k, hk, rfl⟩
    rw [List.mem_range] at hk
    omega
  · intro h
    exact ⟨(i - lo).toNat, by rw [List.mem_range]; omega, by omega⟩
theorem rangeI_length (lo hi : Int) : (rangeI lo hi).length = (hi - lo).toNat := by unfold rangeI; simp
theorem rangeI_get {lo hi : Int} {i : Nat} {d : Int} (h : (rangeI lo hi)[i]? = some d) : d = lo + i ∧ lo + i < hi := by
  have := rangeD_get (lo := lo) (hi := hi) (i := i) (d := .int d) (by rw [rangeD_eq, List.getElem?_map, h]; rfl)
  exact ⟨by have := this.1; cases this; rfl, this.2⟩
theorem all_flat_ints (l : List Int) : (l.map D.int).all isFlat = true := by
  rw [List.all_eq_true]; intro d hd; obtain ⟨i, _, rfl⟩ := List.mem_map.mp hd; rfl
theorem any_ints (i : Int) (l : List Int) : ((l.map D.int).any fun y => eqFl y (.int i)) = decide (i ∈ l) := by
  induction l with
  | nil => simp
  | cons a l ih =>
    rw [List.map_cons, List.any_cons, ih]
    simp only [eqFl, List.mem_cons]
    by_cases h : a = i
    · simp [h]
    · have h' : ¬ i = a := fun e => h e.symm
      simp [h, h']
@[simp] theorem in_ints (i : Int) (l : List Int) : dIn (.int i) (.lst (l.map .int)) = .ok (.bl (decide (i ∈ l))) := by
  simp only [dIn, inD, inSeq, isFlat, all_flat_ints, any_ints, Bool.and_self, if_true]
@[simp] theorem notIn_ints (i : Int) (l : List Int) : dNotIn (.int i) (.lst (l.map .int)) = .ok (.bl (!decide (i ∈ l))) := by
  simp only [dNotIn, inD, inSeq, isFlat, all_flat_ints, any_ints, Bool.and_self, if_true]
@[simp] theorem in_intsT (i : Int) (l : List Int) : dIn (.int i) (.tup (l.map .int)) = .ok (.bl (decide (i ∈ l))) := by
  simp only [dIn, inD, inSeq, isFlat, all_flat_ints, any_ints, Bool.and_self, if_true]
@[simp] theorem notIn_intsT (i : Int) (l : List Int) : dNotIn (.int i) (.tup (l.map .int)) = .ok (.bl (!decide (i ∈ l))) := by
  simp only [dNotIn, inD, inSeq, isFlat, all_flat_ints, any_ints, Bool.and_self, if_true]
end Fd

set_option Elab.async false
set_option linter.all false
/-! while; the least of a list; sorted. -/
namespace Fd
open PySem PySem.Spec PyProof.Rows L2 PySem.W

section
variable {N : En → Prop} {Rt : D → Prop} {Bk Ct : En → Prop} {en : En} {c : CF} {f : SF}
/-- what a while loop does next -/
def kWhile (N : En → Prop) (Rt : D → Prop) (I : Nat → En → Prop) (m : Nat) (en : En) (f : SF) (b : Bool) : Prop :=
  if b = true then Step (fun e => ∃ k, k < m ∧ I k e) Rt N (fun e => ∃ k, k < m ∧ I k e) (f en) else N en
@[simp] theorem wp_kWhile (I : Nat → En → Prop) (m : Nat) (b : Bool) : kWhile N Rt I m en f b ↔ if b = true then Step (fun e => ∃ k, k < m ∧ I k e) Rt N (fun e => ∃ k, k < m ∧ I k e) (f en) else N en := Iff.rfl
theorem Step.while_ (I : Nat → En → Prop) (hs : ∀ m en, I m en → Rp (kWhile N Rt I m en f) (c en)) : ∀ (m : Nat) (en : En), I m en → Step N Rt Bk Ct (sWhile c f en) := by
  have key : ∀ (m : Nat) (en : En), I m en → ∃ n r, whileN c f n en = some r ∧ Step N Rt Bk Ct r := by
    intro m
    induction m using Nat.strongRecOn with
    | _ m ih =>
      intro en hI
      have h := hs m en hI
      obtain ⟨b, hb, hk⟩ := h.get
      cases b with
      | false => exact ⟨1, .nx en, by unfold whileN; rw [hb], .nx hk⟩
      | true =>
        have hk : Step (fun e => ∃ k, k < m ∧ I k e) Rt N (fun e => ∃ k, k < m ∧ I k e) (f en) := hk
        generalize q : f en = r at hk
        cases hk with
        | nx hk =>
          obtain ⟨k, hk1, hk2⟩ := hk
          obtain ⟨n, r, h1, h2⟩ := ih k hk1 _ hk2
          exact ⟨n + 1, r, by unfold whileN; simp only [hb, q]; exact h1, h2⟩
        | cnt hk =>
          obtain ⟨k, hk1, hk2⟩ := hk
          obtain ⟨n, r, h1, h2⟩ := ih k hk1 _ hk2
          exact ⟨n + 1, r, by unfold whileN; simp only [hb, q]; exact h1, h2⟩
        | brk hk => exact ⟨1, .nx _, by unfold whileN; simp only [hb, q], .nx hk⟩
        | ret hk => exact ⟨1, .ret _, by unfold whileN; simp only [hb, q], .ret hk⟩
  intro m en hI
  obtain ⟨n, r, h1, h2⟩ := key m en hI
  rw [sWhile_of h1]
  exact h2
end

/-! ### order of data -/
section
variable {α : Type} [DecidableEq α] [DatumOrd α]
theorem lt_trans' {a b c : α} (h : DatumOrd.lt a b = true) (g : DatumOrd.lt b c = true) : DatumOrd.lt a c = true := by
  rw [← DatumOrd.lt_eq] at h g ⊢
  exact lex_trans (O := itemOrd) _ _ _ h g
theorem lt_irr (a : α) : DatumOrd.lt a a = false := by rw [← DatumOrd.lt_eq]; exact dataLt_self _
theorem minOf_mem (x : α) (xs : List α) : minOf x xs ∈ x :: xs := by
  unfold minOf
  induction xs generalizing x with
  | nil => exact List.mem_cons_self
  | cons y ys ih =>
    rw [List.foldl_cons]
    split
    · have := ih y
      rcases List.mem_cons.mp this with h | h
      · rw [h]; simp
      · exact List.mem_cons_of_mem _ (List.mem_cons_of_mem _ h)
    · have := ih x
      rcases List.mem_cons.mp this with h | h
      · rw [h]; simp
      · exact List.mem_cons_of_mem _ (List.mem_cons_of_mem _ h)
theorem minOf_le (x : α) (xs : List α) : ∀ y ∈ x :: xs, DatumOrd.lt y (minOf x xs) = false := by
  unfold minOf
  suffices ∀ (m : α) (P : α → Prop), (∀ y, P y → DatumOrd.lt y m = false) → P m → ∀ y, P y ∨ y ∈ xs → DatumOrd.lt y (xs.foldl (fun a y => if DatumOrd.lt y a = true then y else a) m) = false from
    fun y hy => this x (fun z => z = x) (fun z hz => by rw [hz]; exact lt_irr x) rfl y (by rcases List.mem_cons.mp hy with h | h; exact .inl h; exact .inr h)
  induction xs with
  | nil => intro m P h _ y hy; rcases hy with hy | hy; exact h y hy; simp at hy
  | cons z zs ih =>
    intro m P h hm y hy
    rw [List.foldl_cons]
    refine ih _ (fun y => P y ∨ y = z) ?_ ?_ y ?_
    · intro y hy
      split
      · rename_i hz
        rcases hy with hy | hy
        · cases q : DatumOrd.lt y z with
          | false => rfl
          | true => have := lt_trans' q hz; rw [h y hy] at this; cases this
        · rw [hy]; exact lt_irr z
      · rename_i hz
        rcases hy with hy | hy
        · exact h y hy
        · rw [hy]; simpa using hz
    · split
      · exact .inr rfl
      · exact .inl hm
    · rcases hy with hy | hy
      · exact .inl (.inl hy)
      · rcases List.mem_cons.mp hy with hy | hy
        · exact .inl (.inr hy)
        · exact .inr hy
theorem pyAll_map {em : α → D} (he : ∀ a, toPy (em a) = some (Datum.toD a)) : ∀ l : List α, toPyAll (l.map em) = some (l.map Datum.toD)
  | [] => rfl
  | x :: xs => by rw [List.map_cons, toPyAll, he x, pyAll_map he xs]; rfl
theorem not_alike_none {p : PyData} (h : p ≠ .none) : PySem.W.alike p .none = false := by
  cases p <;> first | exact absurd rfl h | simp [PySem.W.alike]
/-- min of a list of data of one type -/
theorem minL_datum {em : α → D} (he : ∀ a, toPy (em a) = some (Datum.toD a)) (hd : Datum.depth α ≤ 64) (x : α) (xs : List α) : dMinL [.lst ((x :: xs).map em)] = .ok (em (minOf x xs)) := by
  unfold dMinL
  simp only [pyAll_map he (x :: xs)]
  rw [List.map_cons]
  simp only
  rw [if_pos, minD_map]
  · rw [from_to _ _ (he _)]
  · rw [Bool.and_eq_true, decide_eq_true_eq]
    refine ⟨?_, Nat.le_trans (by rw [← List.map_cons]; exact depthAll_map (x :: xs)) hd⟩
    rw [← List.map_cons]
    unfold alikeOk
    rw [List.all_eq_true]
    intro p hp
    obtain ⟨a, _, rfl⟩ := List.mem_map.mp hp
    rw [Bool.and_eq_true, List.all_eq_true]
    refine ⟨fun q hq => ?_, by rw [not_alike_none (DatumOrd.notNone a)]; rfl⟩
    obtain ⟨b, _, rfl⟩ := List.mem_map.mp hq
    exact DatumOrd.alike a b
/-- the least -/
theorem minL_ok {em : α → D} (he : ∀ a, toPy (em a) = some (Datum.toD a)) (hd : Datum.depth α ≤ 64) {l : List α} (hl : l ≠ []) : ∃ m ∈ l, (∀ y ∈ l, DatumOrd.lt y m = false) ∧ dMinL [.lst (l.map em)] = .ok (em m) := by
  cases l with
  | nil => exact absurd rfl hl
  | cons x xs => exact ⟨minOf x xs, minOf_mem x xs, minOf_le x xs, minL_datum he hd x xs⟩
end
theorem minL_ints {l : List Int} (hl : l ≠ []) : ∃ m ∈ l, (∀ y ∈ l, m ≤ y) ∧ dMinL [.lst (l.map .int)] = .ok (.int m) := by
  obtain ⟨m, h1, h2, h3⟩ := minL_ok (em := D.int) (fun a => rfl) (by decide) hl
  exact ⟨m, h1, fun y hy => by have := h2 y hy; have : decide (y < m) = false := this; simpa using this, h3⟩
theorem listLt_total : ∀ {a b : List Int}, listLt a b = false → listLt b a = false → a = b
  | [], [], _, _ => rfl
  | [], _ :: _, h, _ => by simp [listLt] at h
  | _ :: _, [], _, h => by simp [listLt] at h
  | x :: xs, y :: ys, h, g => by
    rw [listLt] at h g
    by_cases e : x = y
    · subst e
      rw [if_pos rfl] at h g
      rw [listLt_total h g]
    · rw [if_neg e] at h
      rw [if_neg (fun e' => e e'.symm)] at g
      have h : decide (x < y) = false := h
      have g : decide (y < x) = false := g
      simp at h g
      omega
/-- sorted of a list of numbers -/
theorem sorted_ints (l : List Int) (hl : l.length ≤ 16777216) : ∃ l' : List Int, dSorted [.lst (l.map .int)] = .ok (.lst (l'.map .int)) ∧ l'.Perm l ∧ l'.Pairwise (· ≤ ·) := by
  have he : ∀ a : Int, toPy (.int a) = some (Datum.toD a) := fun _ => rfl
  have hs : (l.map D.int).mergeSort leD = (l.mergeSort (fun a b => decide (a ≤ b))).map D.int := by
    rw [List.map_mergeSort (s := leD)]
    intro a _ b _
    show decide (a ≤ b) = leD (.int a) (.int b)
    unfold leD
    have : PySem.W.dataLe false pyOf (D.int a) (D.int b) = PySem.W.dataLe false (fun b : Int => PyData.int b) a b := rfl
    rw [this, PySem.W.dataLe_int]
  refine ⟨l.mergeSort (fun a b => decide (a ≤ b)), ?_, List.mergeSort_perm l _, ?_⟩
  · show (match toPyAll (l.map D.int) with | some ps => if _ then _ else _ | none => _) = _
    simp only [pyAll_map he l]
    rw [if_pos, hs]
    rw [Bool.and_eq_true, Bool.and_eq_true, decide_eq_true_eq, decide_eq_true_eq]
    refine ⟨⟨?_, Nat.le_trans (depthAll_map l) (by decide)⟩, by rw [List.length_map]; exact hl⟩
    unfold sortOk
    rw [Bool.and_eq_true, Bool.or_eq_true, List.all_eq_true, List.all_eq_true, List.all_eq_true]
    refine ⟨fun p hp => ?_, .inr fun p hp => ?_⟩
    · obtain ⟨a, _, rfl⟩ := List.mem_map.mp hp
      rw [List.all_eq_true]
      intro q hq
      obtain ⟨b, _, rfl⟩ := List.mem_map.mp hq
      exact DatumOrd.alike a b
    · obtain ⟨a, _, rfl⟩ := List.mem_map.mp hp
      rfl
  · have := List.pairwise_mergeSort (le := fun a b : Int => decide (a ≤ b)) (fun a b c h g => by simp at h g ⊢; omega) (fun a b => by simp; omega) l
    exact this.imp (by simp)
end Fd

set_option Elab.async false
set_option linter.all false
/-! The meanings of the defs (printed by gen.py). -/
namespace Fd
open PySem
def B_law_numbers : SF := (sSeq (sSet 2 (eLst aNil)) (sSeq (sSet 3 (eVar 0)) (sSeq (sSet 4 (eB2 dMod (eCall dInt (aCons (eB2 dAdd (eB2 dMul (eVar 0) (eC (.int 69621))) (eC (.int 40692))) aNil)) (eC (.int 2147483647)))) (sSeq (sFor (iRange1 (eVar 1)) (tgName 5) (sSeq (sSet 4 (eB2 dMod (eCall dInt (aCons (eB2 dAdd (eB2 dAdd (eB2 dMul (eVar 4) (eC (.int 48271))) (eB2 dMul (eC (.int 7919)) (eVar 5))) (eC (.int 12345))) aNil)) (eC (.int 2147483647)))) (sIf (cBl (eB2 dGe (eVar 0) (eB2 dPow (eC (.int 10)) (eC (.int 18))))) (sSeq (sApp 2 (eB2 dMod (eCall dInt (aCons (eVar 3) aNil)) (eC (.int 997)))) (sSet 3 (eB2 dDiv (eVar 3) (eC (.int 997))))) (sApp 2 (eB2 dMod (eCall dInt (aCons (eB2 dDiv (eVar 4) (eC (.int 1009))) aNil)) (eC (.int 997))))))) (sRet (eVar 2))))))
def F_law_numbers : List D → R D := fnF 6 B_law_numbers
def B_law_log : SF := (sSeq (sSet 5 (eLst aNil)) (sSeq (sFor (iRange1 (eVar 2)) (tgName 6) (sSeq (sSet 7 (eB2 dMod (eCall dInt (aCons (eB2 dIx (eVar 0) (eB2 dAdd (eVar 1) (eB2 dMul (eC (.int 2)) (eVar 6)))) aNil)) (eVar 3))) (sApp 5 (eTup (aCons (eVar 7) (aCons (eB2 dIx (eVar 4) (eB2 dMod (eCall dInt (aCons (eB2 dIx (eVar 0) (eB2 dAdd (eB2 dAdd (eVar 1) (eB2 dMul (eC (.int 2)) (eVar 6))) (eC (.int 1)))) aNil)) (eCall dLen (aCons (eVar 4) aNil)))) aNil)))))) (sRet (eVar 5))))
def F_law_log : List D → R D := fnF 8 B_law_log
def B_law_word_of : SF := (sSeq (sSet 2 (eC .non)) (sSeq (sFor (iSeq (eVar 0)) (tgName 3) (sIf (cBl (eB2 dIn (eB2 dIx (eVar 3) (eC (.int 0))) (eVar 1))) (sSet 2 (eB2 dIx (eVar 3) (eC (.int 1)))) sNx)) (sRet (eVar 2))))
def F_law_word_of : List D → R D := fnF 4 B_law_word_of
def B_law_sound : SF := (sSeq (sSet 4 (eLstRg2 (eVar 2) (eVar 3))) (sSeq (sFor (iSeq (eVar 1)) (tgName 5) (sSeq (sSet 6 (eCall (nArgs 2 F_law_word_of) (aCons (eCut (eVar 0) oNone (oSome (eB2 dIx (eVar 5) (eC (.int 0))))) (aCons (eVar 4) aNil)))) (sFor (iSeq (eVar 4)) (tgName 7) (sIf (cAnd (cBl (eB2 dNe (eB2 dIx (eB2 dIx (eVar 5) (eC (.int 1))) (eVar 7)) (eC (.str "?")))) (cBl (eB2 dNe (eB2 dIx (eB2 dIx (eVar 5) (eC (.int 1))) (eVar 7)) (eVar 6)))) (sRet (eC (.bl false))) sNx)))) (sRet (eC (.bl true)))))
def F_law_sound : List D → R D := fnF 8 B_law_sound
def B_law_cuts_up_to : SF := (sSeq (sSet 3 (eLst (aCons (eLst (aCons (eTup aNil) aNil)) aNil))) (sSeq (sFor (iRange2 (eC (.int 1)) (eB2 dAdd (eVar 0) (eC (.int 1)))) (tgName 4) (sSeq (sSet 5 (eLst aNil)) (sSeq (sFor (iRange1 (eVar 4)) (tgName 6) (sIf (cAnd (cBl (eB2 dGt (eCall dLen (aCons (eIxO 3 (eVar 6)) aNil)) (eC (.int 0)))) (cTr (eCall (nArgs 4 F_law_sound) (aCons (eVar 1) (aCons (eVar 2) (aCons (eVar 6) (aCons (eVar 4) aNil))))))) (sIf (cBl (eB2 dEq (eVar 6) (eC (.int 0)))) (sApp 5 (eTup aNil)) (sExt 5 (eLc false [3, 5] [7] (iSeq (eIxO 3 (eVar 6))) (tgName 7) cYes (eB2 dAdd (eVar 7) (eTup (aCons (eVar 6) aNil)))))) sNx)) (sApp 3 (eVar 5))))) (sRet (eVar 3))))
def F_law_cuts_up_to : List D → R D := fnF 8 B_law_cuts_up_to
def B_stretch_rooms : SF := (sRet (eTupRg2 (eVar 0) (eVar 1)))
def F_stretch_rooms : List D → R D := fnF 2 B_stretch_rooms
def B_word_of : SF := (sSeq (sFor (iRev (eVar 0)) (tgTup (tgCons (tgName 2) (tgCons (tgName 3) tgNil))) (sIf (cBl (eB2 dIn (eVar 2) (eVar 1))) (sRet (eVar 3)) sNx)) (sRet (eC .non)))
def F_word_of : List D → R D := fnF 4 B_word_of
def B_first_calls : SF := (sRet (eCut (eVar 0) oNone (oSome (eB2 dIx (eVar 1) (eC (.int 0))))))
def F_first_calls : List D → R D := fnF 2 B_first_calls
def B_stretch_is_sound : SF := (sSeq (sSet 4 (eCall (nArgs 2 F_stretch_rooms) (aCons (eVar 2) (aCons (eVar 3) aNil)))) (sSeq (sFor (iSeq (eVar 1)) (tgName 5) (sSeq (sSet 6 (eCall (nArgs 2 F_word_of) (aCons (eCall (nArgs 2 F_first_calls) (aCons (eVar 0) (aCons (eVar 5) aNil))) (aCons (eVar 4) aNil)))) (sFor (iSeq (eVar 4)) (tgName 7) (sIf (cAnd (cBl (eB2 dNe (eB2 dIx (eB2 dIx (eVar 5) (eC (.int 1))) (eVar 7)) (eC (.str "?")))) (cBl (eB2 dNe (eB2 dIx (eB2 dIx (eVar 5) (eC (.int 1))) (eVar 7)) (eVar 6)))) (sRet (eC (.bl false))) sNx)))) (sRet (eC (.bl true)))))
def F_stretch_is_sound : List D → R D := fnF 8 B_stretch_is_sound
def B_sound_ends : SF := (sSeq (sSet 3 (eLst aNil)) (sSeq (sFor (iRange1 (eB2 dAdd (eVar 0) (eC (.int 1)))) (tgName 4) (sSeq (sSet 5 (eLst aNil)) (sSeq (sFor (iRange2 (eB2 dAdd (eVar 4) (eC (.int 1))) (eB2 dAdd (eVar 0) (eC (.int 1)))) (tgName 6) (sIf (cTr (eCall (nArgs 4 F_stretch_is_sound) (aCons (eVar 1) (aCons (eVar 2) (aCons (eVar 4) (aCons (eVar 6) aNil)))))) (sApp 5 (eVar 6)) sNx)) (sApp 3 (eVar 5))))) (sRet (eVar 3))))
def F_sound_ends : List D → R D := fnF 7 B_sound_ends
def B_fewest_stretches : SF := (sSeq (sSet 1 (eB2 dRepL (eLst (aCons (eC .non) aNil)) (eCall dLen (aCons (eVar 0) aNil)))) (sSeq (sPut 1 (eC (.int 0)) (eU dNeg (eC (.int 1)))) (sSeq (sFor (iRevRange1 (eB2 dSub (eCall dLen (aCons (eVar 0) aNil)) (eC (.int 1)))) (tgName 2) (sSeq (sSet 3 (eLc true [1] [4] (iSeq (eB2 dIx (eVar 0) (eVar 2))) (tgName 4) (cBl (eB2 dNotN (eB2 dIx (eVar 1) (eVar 4)) (eC .non))) (eB2 dIx (eVar 1) (eVar 4)))) (sIf (cTr (eVar 3)) (sPut 1 (eB2 dAdd (eCall dMinL (aCons (eVar 3) aNil)) (eC (.int 1))) (eVar 2)) sNx))) (sRet (eVar 1)))))
def F_fewest_stretches : List D → R D := fnF 5 B_fewest_stretches
def B_first_end : SF := (sRet (eCall dMinL (aCons (eLc false [] [3] (iSeq (eB2 dIx (eVar 0) (eVar 2))) (tgName 3) (cBl (eB2 dEq (eB2 dIx (eVar 1) (eVar 3)) (eB2 dSub (eB2 dIx (eVar 1) (eVar 2)) (eC (.int 1))))) (eVar 3)) aNil)))
def F_first_end : List D → R D := fnF 4 B_first_end
noncomputable def B_fewest_cuts : SF := (sSeq (sSet 2 (eLst aNil)) (sSeq (sSet 3 (eC (.int 0))) (sSeq (sWhile (cBl (eB2 dGt (eB2 dIx (eVar 1) (eVar 3)) (eC (.int 1)))) (sSeq (sSet 3 (eCall (nArgs 3 F_first_end) (aCons (eVar 0) (aCons (eVar 1) (aCons (eVar 3) aNil))))) (sApp 2 (eVar 3)))) (sRet (eCall dTupOf (aCons (eVar 2) aNil))))))
noncomputable def F_fewest_cuts : List D → R D := fnF 4 B_fewest_cuts
def B_ways_from_start : SF := (sSeq (sSet 1 (eB2 dRepL (eLst (aCons (eC (.int 0)) aNil)) (eCall dLen (aCons (eVar 0) aNil)))) (sSeq (sPut 1 (eC (.int 1)) (eC (.int 0))) (sSeq (sFor (iEnum (eVar 0)) (tgTup (tgCons (tgName 2) (tgCons (tgName 3) tgNil))) (sFor (iSeq (eVar 3)) (tgName 4) (sPut 1 (eB2 dAdd (eIxO 1 (eVar 4)) (eIxO 1 (eVar 2))) (eVar 4)))) (sRet (eVar 1)))))
def F_ways_from_start : List D → R D := fnF 5 B_ways_from_start
def B_reachable_places : SF := (sSeq (sSet 1 (eCall (nArgs 1 F_ways_from_start) (aCons (eVar 0) aNil))) (sRet (eCall dTupOf (aCons (eLc false [] [2] (iRange1 (eCall dLen (aCons (eVar 0) aNil))) (tgName 2) (cBl (eB2 dGt (eB2 dIx (eVar 1) (eVar 2)) (eC (.int 0)))) (eVar 2)) aNil))))
def F_reachable_places : List D → R D := fnF 3 B_reachable_places
noncomputable def B_cuts_answer : SF := (sSeq (sSet 3 (eCall (nArgs 3 F_sound_ends) (aCons (eVar 0) (aCons (eVar 1) (aCons (eVar 2) aNil))))) (sSeq (sSet 4 (eCall (nArgs 1 F_fewest_stretches) (aCons (eVar 3) aNil))) (sSeq (sIf (cBl (eB2 dIsN (eB2 dIx (eVar 4) (eC (.int 0))) (eC .non))) (sRet (eTup (aCons (eC (.str "wall")) (aCons (eCall (nArgs 1 F_reachable_places) (aCons (eVar 3) aNil)) aNil)))) sNx) (sRet (eTup (aCons (eC (.str "cuts")) (aCons (eCall (nArgs 2 F_fewest_cuts) (aCons (eVar 3) (aCons (eVar 4) aNil))) aNil)))))))
noncomputable def F_cuts_answer : List D → R D := fnF 5 B_cuts_answer
def B_law_same (rec : List D → R D) : SF := (sSeq (sIf (cBl (eB2 dIsN (eVar 1) (eC .non))) (sRet (eB2 dIsN (eVar 0) (eC .non))) sNx) (sSeq (sIf (cBl (eB2 dIsB (eVar 1) (eC (.bl true)))) (sRet (eB2 dIsB (eVar 0) (eC (.bl true)))) sNx) (sSeq (sIf (cBl (eB2 dIsB (eVar 1) (eC (.bl false)))) (sRet (eB2 dIsB (eVar 0) (eC (.bl false)))) sNx) (sSeq (sIf (cTr (eU (dIsI "int") (eVar 1))) (sRet (eAnd (eU (dIsI "int") (eVar 0)) (eAnd (eNot (eU (dIsI "bool") (eVar 0))) (eB2 dEq (eVar 0) (eVar 1))))) sNx) (sSeq (sIf (cTr (eU (dIsI "str") (eVar 1))) (sRet (eAnd (eU (dIsI "str") (eVar 0)) (eB2 dEq (eVar 0) (eVar 1)))) sNx) (sSeq (sIf (cAnd (cTr (eU (dIsI "list") (eVar 1))) (cNot (cTr (eU (dIsI "list") (eVar 0))))) (sRet (eC (.bl false))) sNx) (sSeq (sIf (cAnd (cTr (eU (dIsI "tuple") (eVar 1))) (cNot (cTr (eU (dIsI "tuple") (eVar 0))))) (sRet (eC (.bl false))) sNx) (sSeq (sIf (cBl (eB2 dNe (eCall dLen (aCons (eVar 0) aNil)) (eCall dLen (aCons (eVar 1) aNil)))) (sRet (eC (.bl false))) sNx) (sSeq (sFor (iRange1 (eCall dLen (aCons (eVar 1) aNil))) (tgName 2) (sIf (cNot (cTr (eCall (nArgs 2 rec) (aCons (eB2 dIx (eVar 0) (eVar 2)) (aCons (eB2 dIx (eVar 1) (eVar 2)) aNil))))) (sRet (eC (.bl false))) sNx)) (sRet (eC (.bl true))))))))))))
def F_law_same : Nat → List D → R D
  | 0 => fun _ => .bad
  | n + 1 => fnF 3 (B_law_same (F_law_same n))
def B_law_cell : SF := (sSeq (sIf (cBl (eB2 dLt (eVar 1) (eCall dLen (aCons (eVar 0) aNil)))) (sRet (eCall dAbs (aCons (eCall dInt (aCons (eB2 dIx (eVar 0) (eVar 1)) aNil)) aNil))) sNx) (sRet (eC (.int 0))))
def F_law_cell : List D → R D := fnF 2 B_law_cell
def B_law_word : SF := (sSeq (sSet 2 (eC (.str "abcdefghijklmnopqrstuvwxyz"))) (sSeq (sSet 3 (eC (.str ""))) (sSeq (sFor (iRange1 (eB2 dAdd (eC (.int 1)) (eB2 dMod (eCall dInt (aCons (eVar 0) aNil)) (eC (.int 8))))) (tgName 4) (sSet 3 (eB2 dAdd (eVar 3) (eB2 dIx (eVar 2) (eB2 dMod (eCall dInt (aCons (eB2 dAdd (eVar 1) (eB2 dMul (eVar 4) (eB2 dDiv (eVar 0) (eC (.int 8))))) aNil)) (eC (.int 26))))))) (sRet (eVar 3)))))
def F_law_word : List D → R D := fnF 5 B_law_word
def B_law_words : SF := (sSeq (sSet 3 (eLc false [] [4] (iRange1 (eVar 2)) (tgName 4) cYes (eCall (nArgs 2 F_law_word) (aCons (eB2 dIx (eVar 0) (eB2 dAdd (eVar 1) (eB2 dMul (eC (.int 2)) (eVar 4)))) (aCons (eB2 dIx (eVar 0) (eB2 dAdd (eB2 dAdd (eVar 1) (eB2 dMul (eC (.int 2)) (eVar 4))) (eC (.int 1)))) aNil))))) (sSeq (sIf (cBl (eB2 dEq (eB2 dMod (eB2 dDiv (eCall dInt (aCons (eB2 dIx (eVar 0) (eVar 1)) aNil)) (eC (.int 8))) (eC (.int 2))) (eC (.int 1)))) (sFor (iRange2 (eC (.int 1)) (eVar 2)) (tgName 4) (sSeq (sSet 5 (eB2 dMod (eCall dInt (aCons (eB2 dIx (eVar 0) (eB2 dAdd (eVar 1) (eB2 dMul (eC (.int 2)) (eVar 4)))) aNil)) (eCall dLen (aCons (eIxO 3 (eC (.int 0))) aNil)))) (sSeq (sSet 6 (eB2 dIx (eC (.str "abcdefghijklmnopqrstuvwxyz")) (eB2 dMod (eCall dInt (aCons (eB2 dIx (eVar 0) (eB2 dAdd (eB2 dAdd (eVar 1) (eB2 dMul (eC (.int 2)) (eVar 4))) (eC (.int 1)))) aNil)) (eC (.int 26))))) (sPut 3 (eB2 dAdd (eB2 dAdd (eCut (eIxO 3 (eC (.int 0))) oNone (oSome (eVar 5))) (eVar 6)) (eCut (eIxO 3 (eC (.int 0))) (oSome (eB2 dAdd (eVar 5) (eC (.int 1)))) oNone)) (eVar 4))))) sNx) (sRet (eVar 3))))
def F_law_words : List D → R D := fnF 7 B_law_words
def B_law_reach : SF := (sSeq (sSet 3 (eLst aNil)) (sSeq (sIf (cBl (eB2 dIn (eVar 1) (eVar 2))) (sApp 3 (eVar 1)) sNx) (sSeq (sFor (iRange1 (eCall dLen (aCons (eVar 2) aNil))) (tgName 4) (sSeq (sSet 5 (eBorrow (eCall dLen (aCons (eVar 3) aNil)))) (sSeq (sFor (iSeq (eVar 0)) (tgTup (tgCons (tgName 6) (tgCons (tgName 7) tgNil))) (sSeq (sIf (cAnd (cBl (eB2 dIn (eVar 6) (eVar 3))) (cAnd (cBl (eB2 dIn (eVar 7) (eVar 2))) (cBl (eB2 dNotIn (eVar 7) (eVar 3))))) (sApp 3 (eVar 7)) sNx) (sIf (cAnd (cBl (eB2 dIn (eVar 7) (eVar 3))) (cAnd (cBl (eB2 dIn (eVar 6) (eVar 2))) (cBl (eB2 dNotIn (eVar 6) (eVar 3))))) (sApp 3 (eVar 6)) sNx))) (sIf (cBl (eB2 dEq (eBorrow (eCall dLen (aCons (eVar 3) aNil))) (eVar 5))) sBrk sNx)))) (sRet (eCall dSorted (aCons (eVar 3) aNil))))))
def F_law_reach : List D → R D := fnF 8 B_law_reach
def B_law_hear : SF := (sSeq (sSet 3 (eLc false [] [5] (iRange1 (eVar 0)) (tgName 5) cYes (eC .non))) (sSeq (sFor (iSeq (eVar 1)) (tgName 4) (sFor (iSeq (eCall (nArgs 3 F_law_reach) (aCons (eVar 2) (aCons (eB2 dIx (eVar 4) (eC (.int 0))) (aCons (eLstRg1 (eVar 0)) aNil))))) (tgName 5) (sPut 3 (eB2 dIx (eVar 4) (eC (.int 1))) (eVar 5)))) (sRet (eVar 3))))
def F_law_hear : List D → R D := fnF 6 B_law_hear
def B_law_pick : SF := (sSeq (sSet 2 (eB2 dMod (eCall dInt (aCons (eVar 1) aNil)) (eB2 dAdd (eCall dLen (aCons (eVar 0) aNil)) (eC (.int 1))))) (sSeq (sIf (cBl (eB2 dEq (eVar 2) (eCall dLen (aCons (eVar 0) aNil)))) (sRet (eC .non)) sNx) (sRet (eB2 dIx (eVar 0) (eVar 2)))))
def F_law_pick : List D → R D := fnF 3 B_law_pick
def B_law_partial_look : SF := (sSeq (sSet 5 (eB2 dMod (eCall dInt (aCons (eB2 dIx (eVar 0) (eC (.int 0))) aNil)) (eB2 dAdd (eCall dLen (aCons (eVar 2) aNil)) (eC (.int 1))))) (sSeq (sSet 6 (eCall (nArgs 3 F_law_hear) (aCons (eVar 1) (aCons (eCut (eVar 2) oNone (oSome (eVar 5))) (aCons (eVar 3) aNil))))) (sSeq (sSet 7 (eB2 dMod (eCall dInt (aCons (eB2 dIx (eVar 0) (eC (.int 1))) aNil)) (eC (.int 4)))) (sSeq (sSet 8 (eLst aNil)) (sSeq (sFor (iRange1 (eVar 1)) (tgName 9) (sSeq (sSet 10 (eCall dInt (aCons (eB2 dIx (eVar 0) (eB2 dAdd (eC (.int 2)) (eVar 9))) aNil))) (sSeq (sSet 11 (eB2 dIx (eVar 6) (eVar 9))) (sSeq (sIf (cAnd (cBl (eB2 dEq (eVar 7) (eC (.int 2)))) (cBl (eB2 dEq (eB2 dMod (eVar 10) (eC (.int 12))) (eC (.int 4))))) (sSet 11 (eCall (nArgs 2 F_law_pick) (aCons (eVar 4) (aCons (eB2 dDiv (eVar 10) (eC (.int 12))) aNil)))) sNx) (sSeq (sIf (cBl (eB2 dEq (eVar 7) (eC (.int 3)))) (sSet 11 (eCall (nArgs 2 F_law_pick) (aCons (eVar 4) (aCons (eB2 dDiv (eVar 10) (eC (.int 2))) aNil)))) sNx) (sSeq (sIf (cBl (eB2 dEq (eB2 dMod (eVar 10) (eC (.int 2))) (eC (.int 1)))) (sSet 11 (eC (.str "?"))) sNx) (sApp 8 (eVar 11)))))))) (sRet (eTup (aCons (eVar 5) (aCons (eVar 8) aNil)))))))))
def F_law_partial_look : List D → R D := fnF 12 B_law_partial_look
def B_law_seen_so : SF := (sSeq (sSet 4 (eLc false [] [8] (iRange2 (eC (.int 1)) (eVar 0)) (tgName 8) (cBl (eB2 dNotIn (eVar 8) (eVar 3))) (eTup (aCons (eB2 dSub (eVar 8) (eC (.int 1))) (aCons (eVar 8) aNil))))) (sSeq (sFor (iSeq (eVar 2)) (tgName 5) (sSeq (sSet 6 (eCall (nArgs 3 F_law_hear) (aCons (eVar 0) (aCons (eCut (eVar 1) oNone (oSome (eB2 dIx (eVar 5) (eC (.int 0))))) (aCons (eVar 4) aNil))))) (sFor (iRange1 (eVar 0)) (tgName 7) (sIf (cAnd (cBl (eB2 dNe (eB2 dIx (eB2 dIx (eVar 5) (eC (.int 1))) (eVar 7)) (eC (.str "?")))) (cBl (eB2 dNe (eB2 dIx (eB2 dIx (eVar 5) (eC (.int 1))) (eVar 7)) (eB2 dIx (eVar 6) (eVar 7))))) (sRet (eC (.bl false))) sNx)))) (sRet (eC (.bl true)))))
def F_law_seen_so : List D → R D := fnF 9 B_law_seen_so
noncomputable def B_law_k63 : SF := (sSeq (sSet 1 (eCall (nArgs 2 F_law_numbers) (aCons (eCall (nArgs 2 F_law_cell) (aCons (eVar 0) (aCons (eC (.int 0)) aNil))) (aCons (eC (.int 16)) aNil)))) (sSeq (sSet 2 (eCall (nArgs 2 F_law_numbers) (aCons (eCall (nArgs 2 F_law_cell) (aCons (eVar 0) (aCons (eC (.int 1)) aNil))) (aCons (eC (.int 34)) aNil)))) (sSeq (sSet 3 (eB2 dAdd (eC (.int 1)) (eB2 dMod (eCall dInt (aCons (eB2 dIx (eVar 1) (eC (.int 0))) aNil)) (eC (.int 12))))) (sSeq (sSet 4 (eCut (eCall (nArgs 3 F_law_words) (aCons (eVar 2) (aCons (eC (.int 0)) (aCons (eC (.int 4)) aNil)))) oNone (oSome (eB2 dAdd (eC (.int 1)) (eB2 dMod (eCall dInt (aCons (eB2 dIx (eVar 2) (eC (.int 8))) aNil)) (eC (.int 4))))))) (sSeq (sSet 5 (eCall (nArgs 5 F_law_log) (aCons (eVar 2) (aCons (eC (.int 10)) (aCons (eB2 dMod (eCall dInt (aCons (eB2 dIx (eVar 2) (eC (.int 9))) aNil)) (eC (.int 13))) (aCons (eVar 3) (aCons (eVar 4) aNil))))))) (sSeq (sSet 6 (eLc false [] [15] (iRange2 (eC (.int 1)) (eVar 3)) (tgName 15) (cBl (eB2 dEq (eB2 dMod (eCall dInt (aCons (eB2 dIx (eVar 1) (eB2 dAdd (eC (.int 1)) (eVar 15))) aNil)) (eC (.int 2))) (eC (.int 1)))) (eTup (aCons (eB2 dSub (eVar 15) (eC (.int 1))) (aCons (eVar 15) aNil))))) (sSeq (sSet 7 (eB2 dMod (eCall dInt (aCons (eB2 dIx (eVar 1) (eC (.int 1))) aNil)) (eC (.int 5)))) (sSeq (sIf (cBl (eB2 dEq (eB2 dMod (eCall dInt (aCons (eB2 dIx (eVar 1) (eC (.int 13))) aNil)) (eC (.int 9))) (eC (.int 4)))) (sSet 7 (eB2 dAdd (eVar 7) (eC (.int 4)))) sNx) (sSeq (sSet 8 (eLst aNil)) (sSeq (sFor (iRange1 (eVar 7)) (tgName 9) (sSeq (sSet 14 (eCall (nArgs 2 F_law_numbers) (aCons (eB2 dAdd (eCall (nArgs 2 F_law_cell) (aCons (eVar 0) (aCons (eB2 dAdd (eC (.int 2)) (eVar 9)) aNil))) (eB2 dMul (eC (.int 7)) (eVar 9))) (aCons (eC (.int 14)) aNil)))) (sApp 8 (eCall (nArgs 5 F_law_partial_look) (aCons (eVar 14) (aCons (eVar 3) (aCons (eVar 5) (aCons (eVar 6) (aCons (eVar 4) aNil))))))))) (sSeq (sSet 10 (eCall (nArgs 3 F_law_cuts_up_to) (aCons (eVar 3) (aCons (eVar 5) (aCons (eVar 8) aNil))))) (sSeq (sSet 11 (eTup (aCons (eC (.str "wall")) (aCons (eCall dTupOf (aCons (eLc false [] [17] (iRange1 (eB2 dAdd (eVar 3) (eC (.int 1)))) (tgName 17) (cBl (eB2 dGt (eCall dLen (aCons (eB2 dIx (eVar 10) (eVar 17)) aNil)) (eC (.int 0)))) (eVar 17)) aNil)) aNil)))) (sSeq (sIf (cBl (eB2 dGt (eCall dLen (aCons (eB2 dIx (eVar 10) (eVar 3)) aNil)) (eC (.int 0)))) (sSet 11 (eTup (aCons (eC (.str "cuts")) (aCons (eB2 dIx (eCall dMinL (aCons (eLc false [] [18] (iSeq (eB2 dIx (eVar 10) (eVar 3))) (tgName 18) cYes (eTup (aCons (eCall dLen (aCons (eVar 18) aNil)) (aCons (eVar 18) aNil)))) aNil)) (eC (.int 1))) aNil)))) sNx) (sSeq (sSet 12 (eLst (aCons (eCall dListOf (aCons (eVar 5) aNil)) (aCons (eLc false [] [16] (iSeq (eVar 8)) (tgName 16) cYes (eTup (aCons (eB2 dIx (eVar 16) (eC (.int 0))) (aCons (eCall dListOf (aCons (eB2 dIx (eVar 16) (eC (.int 1))) aNil)) aNil)))) aNil)))) (sSeq (sSet 13 (eCall (nArgs 3 F_cuts_answer) (aCons (eVar 3) (aCons (eB2 dIx (eVar 12) (eC (.int 0))) (aCons (eB2 dIx (eVar 12) (eC (.int 1))) aNil))))) (sSeq (sIf (cNot (cTr (eCall (nArgs 2 (F_law_same 12)) (aCons (eVar 13) (aCons (eVar 11) aNil))))) (sRet (eC (.bl false))) sNx) (sSeq (sIf (cAnd (cBl (eB2 dEq (eB2 dIx (eVar 13) (eC (.int 0))) (eC (.str "cuts")))) (cNot (cTr (eCall (nArgs 4 F_law_seen_so) (aCons (eVar 3) (aCons (eVar 5) (aCons (eVar 8) (aCons (eB2 dIx (eVar 13) (eC (.int 1))) aNil)))))))) (sRet (eC (.bl false))) sNx) (sSeq (sIf (cAnd (cBl (eB2 dEq (eB2 dIx (eVar 13) (eC (.int 0))) (eC (.str "wall")))) (cBl (eB2 dIn (eVar 3) (eB2 dIx (eVar 13) (eC (.int 1)))))) (sRet (eC (.bl false))) sNx) (sSeq (sIf (cNot (cTr (eCall (nArgs 2 (F_law_same 12)) (aCons (eCall (nArgs 3 F_cuts_answer) (aCons (eVar 3) (aCons (eB2 dIx (eVar 12) (eC (.int 0))) (aCons (eLst aNil) aNil)))) (aCons (eTup (aCons (eC (.str "cuts")) (aCons (eTup aNil) aNil))) aNil))))) (sRet (eC (.bl false))) sNx) (sSeq (sIf (cNot (cTr (eCall (nArgs 2 (F_law_same 12)) (aCons (eCall (nArgs 3 F_cuts_answer) (aCons (eVar 3) (aCons (eB2 dIx (eVar 12) (eC (.int 0))) (aCons (eB2 dIx (eVar 12) (eC (.int 1))) aNil)))) (aCons (eVar 11) aNil))))) (sRet (eC (.bl false))) sNx) (sRet (eCall (nArgs 2 (F_law_same 12)) (aCons (eVar 12) (aCons (eLst (aCons (eVar 5) (aCons (eVar 8) aNil))) aNil))))))))))))))))))))))))
noncomputable def F_law_k63 : List D → R D := fnF 19 B_law_k63
end Fd

set_option Elab.async false
set_option linter.all false
set_option maxRecDepth 100000
namespace Fd
open PySem PySem.Spec PyProof.Rows L2

/-! ### basics -/
theorem wp_if_set {N : En → Prop} {Rt : D → Prop} {Bk Ct : En → Prop} {en : En} {c : CF} {f : EF} {i : Nat} {e0 : D} (P : D → Prop) (h0 : en.set i (some e0) = en) (hc : Rp (fun _ => True) (c en)) (hf : Rp P (f en)) (he : P e0) (hN : ∀ e, P e → N (en.set i (some e))) :
    Step N Rt Bk Ct (sIf c (sSet i f) sNx en) := by
  obtain ⟨b, hb, _⟩ := hc.get
  obtain ⟨d, hd, hp⟩ := hf.get
  have h1 := hN e0 he
  rw [h0] at h1
  simp only [wp_sIf, hb, Rp_ok, wp_kIf]
  cases b with
  | true => simp only [if_true, wp_set, hd, Rp_ok, wp_kSet]; exact hN d hp
  | false => simpa using h1
theorem wp_if_set2 {N : En → Prop} {Rt : D → Prop} {Bk Ct : En → Prop} {en : En} {c : CF} {f : EF} {i : Nat} {e0 : D} (P : D → Prop) (b : Bool) (h0 : en.set i (some e0) = en) (hc : Rp (fun x => x = b) (c en)) (hf : b = true → Rp P (f en)) (he : b = false → P e0) (hN : ∀ e, P e → N (en.set i (some e))) :
    Step N Rt Bk Ct (sIf c (sSet i f) sNx en) := by
  have hb := hc.eq
  simp only [wp_sIf, hb, Rp_ok, wp_kIf]
  cases b with
  | true =>
    obtain ⟨d, hd, hp⟩ := (hf rfl).get
    simp only [if_true, wp_set, hd, Rp_ok, wp_kSet]; exact hN d hp
  | false =>
    have h1 := hN e0 (he rfl)
    rw [h0] at h1
    simpa using h1

/-! ### law_cell -/
theorem cell_ok (ns : List Int) (k : Int) (hk : 0 ≤ k) : Rp (fun d => ∃ c : Int, d = .int c ∧ 0 ≤ c) (F_law_cell [.scr ns, .int k]) := by
  by_cases h : k < ns.length
  · simp [F_law_cell, B_law_cell, h]
    refine ⟨_, at_some hk h, ?_⟩
    split <;> omega
  · simp [F_law_cell, B_law_cell, h]

/-! ### law_numbers -/
/-- a row of numbers -/
def Row (n : Nat) (d : D) : Prop := ∃ l : List Int, d = .lst (l.map .int) ∧ l.length = n ∧ ∀ x ∈ l, 0 ≤ x ∧ x < 997
theorem numbers_ok (c k : Int) (hk : 0 ≤ k) (hk' : k ≤ 1000) : Rp (Row k.toNat) (F_law_numbers [.int c, .int k]) := by
  simp [F_law_numbers, B_law_numbers, small_int (j := k) (by omega)]
  refine Step.loop (fun i en => ∃ (l : List Int) (a b : Int) (e : Option D), en = [some (.int c), some (.int k), some (.lst (l.map .int)), some (.int a), some (.int b), e] ∧ l.length = i ∧ ∀ x ∈ l, 0 ≤ x ∧ x < 997)
    ⟨[], c, _, none, rfl, rfl, by simp⟩ ?_ ?_
  · rintro i d en hd ⟨l, a, b, e, rfl, h2, h3⟩
    obtain ⟨rfl, hi⟩ := rangeD_get hd
    refine ⟨_, rfl, ?_⟩
    by_cases h : (1000000000000000000 : Int) ≤ c
    · simp [h]
      refine ⟨by omega, l ++ [a % 997], by simp, by simp [h2], fun x hx => ?_⟩
      rcases List.mem_append.mp hx with hx | hx
      · exact h3 x hx
      · simp at hx; omega
    · simp [h]
      refine ⟨by omega, l ++ [(b * 48271 + 7919 * (i : Int) + 12345) % 2147483647 / 1009 % 997], by simp, by simp [h2], fun x hx => ?_⟩
      rcases List.mem_append.mp hx with hx | hx
      · exact h3 x hx
      · simp at hx; omega
  · rintro en ⟨l, a, b, e, rfl, h2, h3⟩
    rw [rangeD_length] at h2
    simp
    exact ⟨l, rfl, by omega, h3⟩

/-! ### letters -/
/-- a word: 1 to 8 letters -/
def WordOk (s : Str) : Prop := 1 ≤ s.length ∧ s.length ≤ 8 ∧ ∀ c ∈ s.cps.toList, 97 ≤ c ∧ c ≤ 122
theorem letters_at : ∀ n : Nat, n < 26 → ∃ d, (Str.ofString "abcdefghijklmnopqrstuvwxyz").cps.toList[n]? = some d ∧ 97 ≤ d ∧ d ≤ 122 := by
  have e : (Str.ofString "abcdefghijklmnopqrstuvwxyz").cps.toList = (List.range 26).map (97 + ·) := by decide +kernel
  intro n h
  rw [e]
  refine ⟨97 + n, ?_, by omega, by omega⟩
  rw [List.getElem?_map, List.getElem?_range h]
  rfl
theorem letters_len : (Str.ofString "abcdefghijklmnopqrstuvwxyz").length ≤ 16777216 := by decide +kernel
theorem letter_ix (e : Int) : ∃ d : Nat, atI (Str.ofString "abcdefghijklmnopqrstuvwxyz").cps.toList (e % 26) = some d ∧ 97 ≤ d ∧ d ≤ 122 := by
  obtain ⟨d, h1, h2⟩ := letters_at (e % 26).toNat (by omega)
  obtain ⟨n, hn⟩ : ∃ n : Nat, e % 26 = n := ⟨(e % 26).toNat, by omega⟩
  rw [hn] at h1 ⊢
  exact ⟨d, by rw [at_nat]; exact h1, h2⟩
theorem Str_len_append (a b : Str) : (a ++ b).length = a.length + b.length := by
  show (a.cps ++ b.cps).size = _
  rw [Array.size_append]; rfl
theorem Str_cps_append (a b : Str) : (a ++ b).cps.toList = a.cps.toList ++ b.cps.toList := by
  show (a.cps ++ b.cps).toList = _
  rw [Array.toList_append]
theorem str_one_len (d : Nat) : (⟨#[d]⟩ : Str).length = 1 := rfl
theorem str_empty_len : (Str.ofString "").length = 0 := by decide +kernel
theorem str_empty_cps : (Str.ofString "").cps.toList = [] := by decide +kernel

/-! ### law_word -/
theorem word_ok (a b : Int) : Rp (fun d => ∃ s, d = .str s ∧ WordOk s) (F_law_word [.int a, .int b]) := by
  simp [F_law_word, B_law_word, small_int (j := 1 + a % 8) (by omega)]
  refine Step.loop (fun i en => ∃ (s : Str) (e : Option D), en = [some (.int a), some (.int b), some (.str (Str.ofString "abcdefghijklmnopqrstuvwxyz")), some (.str s), e] ∧ s.length = i ∧ ∀ c ∈ s.cps.toList, 97 ≤ c ∧ c ≤ 122)
    ⟨_, _, rfl, str_empty_len, by rw [str_empty_cps]; simp⟩ ?_ ?_
  · rintro i d en hd ⟨s, e, rfl, h2, h3⟩
    obtain ⟨rfl, hi⟩ := rangeD_get hd
    refine ⟨_, rfl, ?_⟩
    simp
    obtain ⟨d, q1, q2⟩ := letter_ix (b + (i : Int) * (a / 8))
    refine ⟨by omega, letters_len, d, q1, by rw [str_one_len]; omega, by rw [Str_len_append, h2]; rfl, fun x hx => ?_⟩
    rw [← Array.mem_toList_iff, Str_cps_append, List.mem_append] at hx
    rcases hx with hx | hx
    · exact h3 x hx
    · simp at hx; omega
  · rintro en ⟨s, e, rfl, h2, h3⟩
    rw [rangeD_length] at h2
    simp
    exact ⟨by omega, by omega, h3⟩

/-! ### law_words -/
theorem cut_word {w : Str} {d : Nat} {p : Int} (h : WordOk w) (hd : 97 ≤ d ∧ d ≤ 122) (hp : 0 ≤ p ∧ p < w.length) :
    w.length ≤ 16777216 ∧ ((cutS w none (some p)).length + (⟨#[d]⟩ : Str).length ≤ 16777216) ∧ ((cutS w none (some p) ++ ⟨#[d]⟩).length + (cutS w (some (p + 1)) none).length ≤ 16777216) ∧ WordOk (cutS w none (some p) ++ ⟨#[d]⟩ ++ cutS w (some (p + 1)) none) := by
  obtain ⟨n, rfl⟩ : ∃ n : Nat, p = n := ⟨p.toNat, by omega⟩
  have hz : w.cps.toList.length = w.length := rfl
  have hz2 : w.cps.size = w.length := rfl
  have e1 : (cutS w none (some (n : Int))).cps.toList = w.cps.toList.take n := by
    unfold cutS; rw [HT.sIx_none, HT.sIx_nat]
    simp only [List.drop_zero, Nat.sub_zero]
    rw [Nat.min_eq_left (by omega)]
  have e2 : (cutS w (some ((n : Int) + 1)) none).cps.toList = w.cps.toList.drop (n + 1) := by
    unfold cutS
    rw [show ((n : Int) + 1) = ((n + 1 : Nat) : Int) from by omega, HT.sIx_none, HT.sIx_nat, Nat.min_eq_left (by omega)]
    simp only
    rw [List.take_of_length_le (by simp; omega)]
  have l1 : (cutS w none (some (n : Int))).length = n := by
    show (cutS w none (some (n : Int))).cps.toList.length = _
    rw [e1, List.length_take]; omega
  have l2 : (cutS w (some ((n : Int) + 1)) none).length = w.length - (n + 1) := by
    show (cutS w (some ((n : Int) + 1)) none).cps.toList.length = _
    rw [e2, List.length_drop]; omega
  obtain ⟨h1, h2, h3⟩ := h
  refine ⟨by omega, by rw [l1, str_one_len]; omega, by rw [Str_len_append, l1, l2, str_one_len]; omega, ?_, ?_, ?_⟩
  · rw [Str_len_append, Str_len_append, l1, l2, str_one_len]; omega
  · rw [Str_len_append, Str_len_append, l1, l2, str_one_len]; omega
  · intro c hc
    rw [Str_cps_append, Str_cps_append, e1, e2] at hc
    simp only [List.mem_append] at hc
    rcases hc with (hc | hc) | hc
    · exact h3 c (List.mem_of_mem_take hc)
    · simp at hc; omega
    · exact h3 c (List.mem_of_mem_drop hc)
/-- a list of words -/
def Words (n : Nat) (d : D) : Prop := ∃ ws : List Str, d = .lst (ws.map .str) ∧ ws.length = n ∧ ∀ w ∈ ws, WordOk w
theorem words_ok (l : List Int) (a k : Int) (ha : 0 ≤ a) (hk : 1 ≤ k) (hl : a + 2 * k ≤ l.length) (hb : l.length ≤ 1000) :
    Rp (Words k.toNat) (F_law_words [.lst (l.map .int), .int a, .int k]) := by
  simp [F_law_words, B_law_words, small_int (j := k) (by omega)]
  refine Rp.lcSome (fun _ y => ∃ s, y = .str s ∧ WordOk s) (fun d hd => ?_) (by rw [rangeD_length]; omega) fun ys h2 h3 => ?_
  · obtain ⟨i, rfl, h1, h2⟩ := rangeD_mem hd
    refine ⟨_, rfl, ?_⟩
    simp
    refine ⟨_, at_some (by omega) (by omega), _, at_some (by omega) (by omega), (word_ok _ _).imp ?_⟩
    exact fun d h => h
  · obtain ⟨ws, rfl⟩ := map_of_all D.str (ds := ys) (fun y hy => by
      obtain ⟨i, hi, e⟩ := List.mem_iff_getElem.mp hy
      obtain ⟨s, e', _⟩ := h3 i (rangeD 0 k)[i] y (List.getElem?_eq_getElem (by omega)) (by rw [List.getElem?_eq_getElem hi, e])
      exact ⟨s, e'⟩)
    have hws : ∀ w ∈ ws, WordOk w := fun w hw => by
      obtain ⟨i, hi, e⟩ := List.mem_iff_getElem.mp hw
      rw [List.length_map] at h2
      obtain ⟨s, e', h⟩ := h3 i ((rangeD 0 k)[i]'(by omega)) (.str w) (List.getElem?_eq_getElem (by omega)) (by rw [List.getElem?_map, List.getElem?_eq_getElem hi, e]; rfl)
      cases e'
      exact h
    rw [List.length_map, rangeD_length] at h2
    simp
    refine ⟨_, at_some (by omega) (by omega), ?_⟩
    split
    · refine ⟨⟨rfl, small_int (by omega)⟩, Step.loop (fun _ en => ∃ (ws : List Str) (e4 e5 e6 : Option D), en = [some (.lst (l.map .int)), some (.int a), some (.int k), some (.lst (ws.map .str)), e4, e5, e6] ∧ ws.length = k.toNat ∧ ∀ w ∈ ws, WordOk w)
        ⟨ws, _, _, _, rfl, by omega, hws⟩ ?_ ?_⟩
      · rintro i d en hd ⟨ws, e4, e5, e6, rfl, h2, hws⟩
        obtain ⟨rfl, hi⟩ := rangeD_get hd
        refine ⟨_, rfl, ?_⟩
        have hw0 := hws ws[0] (List.getElem_mem _)
        have q0 := hw0.1
        have q1 := hw0.2.1
        have hat : atI ws 0 = some ws[0] := at_some (by omega) (by omega)
        simp [hat]
        refine ⟨_, at_some (by omega) (by omega), by omega, by omega, _, at_some (by omega) (by omega), letters_len, ?_⟩
        obtain ⟨c, hc, hc2⟩ := letter_ix l[(a + 2 * (1 + (i : Int)) + 1).toNat]
        obtain ⟨p1, p2, p3, p4⟩ := cut_word (p := l[(a + 2 * (1 + (i : Int))).toNat] % ((ws[0].length : Nat) : Int)) hw0 hc2 ⟨Int.emod_nonneg _ (by omega), Int.emod_lt_of_pos _ (by omega)⟩
        refine ⟨c, hc, ?_⟩
        refine ⟨by omega, p2, by omega, p3, 1 + i, by rw [show (1 + (i : Int)) = ((1 + i : Nat) : Int) from by omega]; exact ixN_nat (by omega), ws.set (1 + i) _, by rw [List.map_set], by simp [h2], fun w hw => ?_⟩
        rcases List.mem_or_eq_of_mem_set hw with hw | rfl
        · exact hws w hw
        · exact p4
      · rintro en ⟨ws, e4, e5, e6, rfl, h2, hws⟩
        simp
        exact ⟨ws, rfl, h2, hws⟩
    · exact ⟨ws, rfl, by omega, hws⟩

/-! ### law_log -/
/-- a log: rooms below n, words -/
def callD (c : Nat × Str) : D := .tup [.int (c.1 : Int), .str c.2]
def logD (cs : List (Nat × Str)) : D := .lst (cs.map callD)
def LogOk (rooms : Nat) (cs : List (Nat × Str)) : Prop := ∀ c ∈ cs, c.1 < rooms ∧ WordOk c.2
def Log (rooms n : Nat) (d : D) : Prop := ∃ cs : List (Nat × Str), d = logD cs ∧ cs.length = n ∧ LogOk rooms cs
theorem log_ok (l : List Int) (a k r : Int) (ws : List Str) (ha : 0 ≤ a) (hk : 0 ≤ k) (hl : a + 2 * k ≤ l.length) (hb : l.length ≤ 1000) (hr : 0 < r) (hw : 0 < ws.length) (hws : ∀ w ∈ ws, WordOk w) :
    Rp (Log r.toNat k.toNat) (F_law_log [.lst (l.map .int), .int a, .int k, .int r, .lst (ws.map .str)]) := by
  simp [F_law_log, B_law_log, small_int (j := k) (by omega)]
  refine Step.loop (fun i en => ∃ (cs : List (Nat × Str)) (e6 e7 : Option D), en = [some (.lst (l.map .int)), some (.int a), some (.int k), some (.int r), some (.lst (ws.map .str)), some (logD cs), e6, e7] ∧ cs.length = i ∧ LogOk r.toNat cs)
    ⟨[], _, _, rfl, rfl, by simp [LogOk]⟩ ?_ ?_
  · rintro i d en hd ⟨cs, e6, e7, rfl, h2, h3⟩
    obtain ⟨rfl, hi⟩ := rangeD_get hd
    refine ⟨_, rfl, ?_⟩
    simp [logD]
    refine ⟨_, at_some (by omega) (by omega), hr, _, at_some (by omega) (by omega), hw, ?_⟩
    have q0 : (0 : Int) < ws.length := by omega
    obtain ⟨w, hw1, hw2⟩ := at_ex (l := ws) (i := l[(a + 2 * (i : Int) + 1).toNat] % (ws.length : Int)) (Int.emod_nonneg _ (by omega)) (Int.emod_lt_of_pos _ q0)
    have q1 := Int.emod_nonneg l[(a + 2 * (i : Int)).toNat] (show r ≠ 0 by omega)
    have q2 := Int.emod_lt_of_pos l[(a + 2 * (i : Int)).toNat] hr
    refine ⟨w, hw1, by omega, cs ++ [((l[(a + 2 * (i : Int)).toNat] % r).toNat, w)], ?_, by simp [h2], fun c hc => ?_⟩
    · simp [callD]; omega
    · rcases List.mem_append.mp hc with hc | hc
      · exact h3 c hc
      · simp at hc
        subst hc
        exact ⟨by show (_ : Nat) < _; omega, hws w hw2⟩
  · rintro en ⟨cs, e6, e7, rfl, h2, h3⟩
    rw [rangeD_length] at h2
    simp
    exact ⟨cs, rfl, by omega, h3⟩

/-! ### law_pick -/
/-- an entry: None or a word -/
def Entry (d : D) : Prop := d = .non ∨ ∃ w, d = .str w ∧ WordOk w
theorem pick_ok (ws : List Str) (n : Int) (hws : ∀ w ∈ ws, WordOk w) : Rp Entry (F_law_pick [.lst (ws.map .str), .int n]) := by
  have q1 := Int.emod_nonneg n (show (ws.length : Int) + 1 ≠ 0 by omega)
  have q2 := Int.emod_lt_of_pos n (show 0 < (ws.length : Int) + 1 by omega)
  by_cases h : n % ((ws.length : Int) + 1) = ws.length
  · simp [F_law_pick, B_law_pick, h, Entry]
  · simp [F_law_pick, B_law_pick, h]
    obtain ⟨w, h1, h2⟩ := at_ex (l := ws) (i := n % ((ws.length : Int) + 1)) q1 (by omega)
    exact ⟨w, h1, .inr ⟨w, rfl, hws w h2⟩⟩

/-! ### law_same -/
/-- what _law_same takes -/
def sameOk : Nat → D → Bool
  | 0, _ => false
  | _ + 1, .non => true
  | _ + 1, .bl _ => true
  | _ + 1, .int _ => true
  | _ + 1, .str _ => true
  | n + 1, .lst ds => decide (ds.length ≤ 1000000000) && ds.all (sameOk n)
  | n + 1, .tup ds => decide (ds.length ≤ 1000000000) && ds.all (sameOk n)
  | _, _ => false
theorem same_ok : ∀ (n : Nat) (d : D), sameOk n d = true → Rp (fun r => r = .bl true) (F_law_same n [d, d])
  | 0, d, h => by simp [sameOk] at h
  | n + 1, d, h => by
    have loop : ∀ (x : D) (ds : List D), (x = .lst ds ∨ x = .tup ds) → ds.all (sameOk n) = true → Step (fun en => ∃ e, en = [some x, some x, e]) (fun r => False) (fun _ => False) (fun _ => False)
        (forL (tgName 2) (sIf (cNot (cTr (eCall (nArgs 2 (F_law_same n)) (aCons (eB2 dIx (eVar 0) (eVar 2)) (aCons (eB2 dIx (eVar 1) (eVar 2)) aNil))))) (sRet (eC (.bl false))) sNx) (rangeD 0 (ds.length : Int)) [some x, some x, none]) := by
      intro x ds hx hall
      refine Step.loop (fun _ en => ∃ e, en = [some x, some x, e]) ⟨_, rfl⟩ ?_ fun en h => h
      rintro i d en hd ⟨e, rfl⟩
      obtain ⟨rfl, hi⟩ := rangeD_get hd
      refine ⟨_, rfl, ?_⟩
      obtain ⟨y, hy, hy2⟩ := at_ex (l := ds) (i := (i : Int)) (by omega) (by omega)
      have ih := same_ok n y (List.all_eq_true.mp hall y hy2)
      have ih' := ih.eq
      rcases hx with rfl | rfl
      · simp
        refine ⟨y, hy, y, hy, ?_⟩
        rw [ih']
        simp
      · simp
        refine ⟨y, hy, y, hy, ?_⟩
        rw [ih']
        simp
    cases d with
    | non => simp [F_law_same, B_law_same]
    | bl b => cases b <;> simp [F_law_same, B_law_same]
    | int i => simp [F_law_same, B_law_same]
    | str i => simp [F_law_same, B_law_same]
    | lst ds =>
      simp only [sameOk, Bool.and_eq_true, decide_eq_true_eq] at h
      simp [F_law_same, B_law_same, show ds.length < 2 ^ 62 from by omega]
      refine ((loop _ ds (.inl rfl) h.2).imp2 ?_ (fun e h => h.elim))
      rintro en ⟨e, rfl⟩
      simp
    | tup ds =>
      simp only [sameOk, Bool.and_eq_true, decide_eq_true_eq] at h
      simp [F_law_same, B_law_same, show ds.length < 2 ^ 62 from by omega]
      refine ((loop _ ds (.inr rfl) h.2).imp2 ?_ (fun e h => h.elim))
      rintro en ⟨e, rfl⟩
      simp
    | _ => simp [sameOk] at h

/-! ### law_word_of -/
/-- the word of the last call in a room that p takes -/
def lastW (p : Nat → Bool) (cs : List (Nat × Str)) : D := cs.foldl (fun w c => if p c.1 = true then .str c.2 else w) .non
theorem lastW_snoc (p : Nat → Bool) (cs : List (Nat × Str)) (c : Nat × Str) : lastW p (cs ++ [c]) = if p c.1 = true then .str c.2 else lastW p cs := by
  unfold lastW; rw [List.foldl_append]; rfl
theorem lastW_congr {p q : Nat → Bool} {cs : List (Nat × Str)} (h : ∀ c ∈ cs, p c.1 = q c.1) : lastW p cs = lastW q cs := by
  unfold lastW
  generalize D.non = w
  induction cs generalizing w with
  | nil => rfl
  | cons c cs ih =>
    rw [List.foldl_cons, List.foldl_cons, h c List.mem_cons_self]
    exact ih (fun c hc => h c (List.mem_cons_of_mem _ hc)) _
theorem take_snoc {α : Type} {l : List α} {i : Nat} {a : α} (h : l[i]? = some a) : l.take (i + 1) = l.take i ++ [a] := by
  rw [List.take_succ, h]; rfl
theorem get_map {α β : Type} {f : α → β} {l : List α} {i : Nat} {d : β} (h : (l.map f)[i]? = some d) : ∃ a, l[i]? = some a ∧ d = f a := by
  rw [List.getElem?_map] at h
  obtain ⟨a, h1, h2⟩ := Option.map_eq_some_iff.mp h
  exact ⟨a, h1, h2.symm⟩
theorem law_word_of_ok (cs : List (Nat × Str)) (l : List Int) : Rp (fun d => d = lastW (fun r => decide ((r : Int) ∈ l)) cs) (F_law_word_of [logD cs, .lst (l.map .int)]) := by
  simp [F_law_word_of, B_law_word_of, logD]
  refine Step.loop (fun i en => ∃ e, en = [some (logD cs), some (.lst (l.map .int)), some (lastW (fun r => decide ((r : Int) ∈ l)) (cs.take i)), e]) ⟨_, rfl⟩ ?_ ?_
  · rintro i d en hd ⟨e, rfl⟩
    obtain ⟨c, hc, rfl⟩ := get_map hd
    refine ⟨_, rfl, ?_⟩
    rw [take_snoc hc]
    by_cases h : (c.1 : Int) ∈ l <;> simp [callD, h, lastW_snoc]
  · rintro en ⟨e, rfl⟩
    simp

/-! ### word_of -/
theorem lastW_rev (p : Nat → Bool) (xs : List (Nat × Str)) : lastW p xs.reverse = xs.foldr (fun c w => if p c.1 = true then .str c.2 else w) .non := by
  unfold lastW; rw [List.foldl_reverse]
theorem word_of_ok (cs : List (Nat × Str)) (l : List Int) : Rp (fun d => d = lastW (fun r => decide ((r : Int) ∈ l)) cs) (F_word_of [logD cs, .tup (l.map .int)]) := by
  simp [F_word_of, B_word_of, logD]
  have key : ∀ (xs : List (Nat × Str)) (x0 e2 e3 : Option D), Step (kThen (fun x => D.non = lastW (fun r => decide ((r : Int) ∈ l)) cs) (fun d => d = lastW (fun r => decide ((r : Int) ∈ l)) cs) (fun _ => False) (fun _ => False) (sRet (eC .non)))
      (fun d => d = lastW (fun r => decide ((r : Int) ∈ l)) cs) (fun _ => False) (fun _ => False)
      (forL (tgTup (tgCons (tgName 2) (tgCons (tgName 3) tgNil))) (sIf (cBl (eB2 dIn (eVar 2) (eVar 1))) (sRet (eVar 3)) sNx) (xs.map callD) [x0, some (.tup (l.map .int)), e2, e3]) ↔
      xs.foldr (fun c w => if decide ((c.1 : Int) ∈ l) = true then .str c.2 else w) .non = lastW (fun r => decide ((r : Int) ∈ l)) cs := by
    intro xs
    induction xs with
    | nil => intro x0 e2 e3; rw [List.map_nil, Step.nil]; simp
    | cons c xs ih =>
      intro x0 e2 e3
      rw [List.map_cons, Step.cons (en1 := [x0, some (.tup (l.map .int)), some (.int c.1), some (.str c.2)]) (by rfl)]
      by_cases h : (c.1 : Int) ∈ l
      · simp [h]
      · simp only [wp_sIf, wp_cBl, wp_B2, ev_var0, ev_varS, Rp_ok, wp_kB2, wp_kOp, in_intsT, wp_kU, ev_blOf, wp_kIf, wp_sNx, h, decide_false, List.foldr_cons]
        simp [ih]
  have := (key cs.reverse (some (logD cs)) none none).mpr (by rw [← lastW_rev (fun r => decide ((r : Int) ∈ l)), List.reverse_reverse])
  rw [List.map_reverse] at this
  exact this

/-! ### sound -/
/-- an entry of a look -/
def EntryQ (d : D) : Prop := d = .non ∨ ∃ w, d = .str w
theorem Entry.q {d : D} (h : Entry d) : EntryQ d := by rcases h with h | ⟨w, h, _⟩; exact .inl h; exact .inr ⟨w, h⟩
theorem lastW_q (p : Nat → Bool) (cs : List (Nat × Str)) : EntryQ (lastW p cs) := by
  unfold lastW
  suffices ∀ w, EntryQ w → EntryQ (cs.foldl (fun w c => if p c.1 = true then .str c.2 else w) w) from this _ (.inl rfl)
  induction cs with
  | nil => exact fun w h => h
  | cons c cs ih =>
    intro w h
    rw [List.foldl_cons]
    refine ih _ ?_
    split
    · exact .inr ⟨_, rfl⟩
    · exact h
theorem ne_q {e w : D} (he : EntryQ e) (hw : EntryQ w) : dNe e w = .ok (.bl (!eqFl e w)) := by
  rcases he with rfl | ⟨x, rfl⟩ <;> rcases hw with rfl | ⟨y, rfl⟩ <;> simp [eqFl]
  by_cases h : x = y <;> simp [h]
theorem q_mark : EntryQ (.str (Str.ofString "?")) := .inr ⟨_, rfl⟩
theorem eqFl_q {e w : D} (he : EntryQ e) (hw : EntryQ w) : eqFl e w = true ↔ e = w := by
  rcases he with rfl | ⟨x, rfl⟩ <;> rcases hw with rfl | ⟨y, rfl⟩ <;> simp [eqFl]
/-- the entry was not looked at, or is the word -/
def fitE (e w : D) : Bool := eqFl e (.str (Str.ofString "?")) || eqFl e w
def lookD (lk : Nat × List D) : D := .tup [.int (lk.1 : Int), .lst lk.2]
def looksD (lks : List (Nat × List D)) : D := .lst (lks.map lookD)
def LookOk (rooms : Nat) (lk : Nat × List D) : Prop := lk.2.length = rooms ∧ ∀ e ∈ lk.2, EntryQ e
def entry (es : List D) (r : Int) : D := es.getD r.toNat .non
theorem entry_at {es : List D} {r : Int} (h0 : 0 ≤ r) (h1 : r < es.length) : atI es r = some (entry es r) ∧ entry es r ∈ es := by
  have e : entry es r = es[r.toNat]'(by omega) := by unfold entry; rw [List.getD_eq_getElem?_getD, List.getElem?_eq_getElem (by omega)]; rfl
  rw [e]
  exact ⟨at_some h0 h1, List.getElem_mem _⟩
def fitsAt (lk : Nat × List D) (w : D) (rs : List Int) : Bool := rs.all fun r => fitE (entry lk.2 r) w
def soundB (cs : List (Nat × Str)) (lks : List (Nat × List D)) (rs : List Int) : Bool := lks.all fun lk => fitsAt lk (lastW (fun r => decide ((r : Int) ∈ rs)) (cs.take lk.1)) rs
abbrev soundBody : SF := sIf (cAnd (cBl (eB2 dNe (eB2 dIx (eB2 dIx (eVar 5) (eC (.int 1))) (eVar 7)) (eC (.str "?")))) (cBl (eB2 dNe (eB2 dIx (eB2 dIx (eVar 5) (eC (.int 1))) (eVar 7)) (eVar 6)))) (sRet (eC (.bl false))) sNx
theorem sound_inner {N : En → Prop} {Rt : D → Prop} {Bk Ct : En → Prop} {lk : Nat × List D} {w : D} {n : Nat} (hl : LookOk n lk) (hw : EntryQ w) (x0 x1 x2 x3 x4 : Option D) : ∀ (rs : List Int) (e7 : Option D), (∀ r ∈ rs, 0 ≤ r ∧ r < n) →
    (fitsAt lk w rs = true → ∀ e, N [x0, x1, x2, x3, x4, some (lookD lk), some w, e]) → (fitsAt lk w rs = false → Rt (.bl false)) →
    Step N Rt Bk Ct (forL (tgName 7) soundBody (rs.map .int) [x0, x1, x2, x3, x4, some (lookD lk), some w, e7])
  | [], e7, hr, h1, h2 => .nx (h1 rfl e7)
  | r :: rs, e7, hr, h1, h2 => by
    obtain ⟨hr0, hr1⟩ := hr r List.mem_cons_self
    rw [List.map_cons, Step.cons (en1 := [x0, x1, x2, x3, x4, some (lookD lk), some w, some (.int r)]) (by rfl)]
    obtain ⟨ha, hm⟩ := entry_at (es := lk.2) hr0 (by rw [hl.1]; exact hr1)
    have hq := hl.2 _ hm
    have ih := sound_inner (N := N) (Rt := Rt) (Bk := Bk) (Ct := Ct) hl hw x0 x1 x2 x3 x4 rs (some (.int r)) (fun r h => hr r (List.mem_cons_of_mem _ h))
    have hc : fitsAt lk w (r :: rs) = (fitE (entry lk.2 r) w && fitsAt lk w rs) := rfl
    rw [hc] at h1 h2
    simp [soundBody, lookD, ha, ne_q hq q_mark, ne_q hq hw]
    unfold fitE at h1 h2
    cases q1 : eqFl (entry lk.2 r) (.str (Str.ofString "?")) with
    | true =>
      rw [q1] at h1 h2
      simp at h1 h2 ⊢
      exact ih (fun h => h1 h) (fun h => h2 h)
    | false =>
      rw [q1] at h1 h2
      cases q2 : eqFl (entry lk.2 r) w with
      | true =>
        rw [q2] at h1 h2
        simp at h1 h2 ⊢
        exact ih (fun h => h1 h) (fun h => h2 h)
      | false =>
        rw [q2] at h1 h2
        simp at h1 h2 ⊢
        exact h2

/-! ### law_sound -/
theorem law_sound_ok (cs : List (Nat × Str)) (lks : List (Nat × List D)) (a b : Int) (n : Nat) (hn : n ≤ 1000) (ha : 0 ≤ a) (hb : b ≤ n) (hl : ∀ lk ∈ lks, LookOk n lk) (hb0 : 0 ≤ b) (ha1 : a ≤ 1000) :
    Rp (fun d => d = .bl (soundB cs lks (rangeI a b))) (F_law_sound [logD cs, looksD lks, .int a, .int b]) := by
  simp [F_law_sound, B_law_sound, looksD, wp_rg2 (i := a) (j := b) (by omega) (by omega) (by omega), rangeD_eq]
  have key : ∀ (ks : List (Nat × List D)) (e5 e6 e7 : Option D), (∀ lk ∈ ks, LookOk n lk) → soundB cs lks (rangeI a b) = soundB cs ks (rangeI a b) →
      Step (kThen (fun x => False) (fun d => d = .bl (soundB cs lks (rangeI a b))) (fun _ => False) (fun _ => False) (sRet (eC (.bl true)))) (fun d => d = .bl (soundB cs lks (rangeI a b))) (fun _ => False) (fun _ => False)
        (forL (tgName 5) (sSeq (sSet 6 (eCall (nArgs 2 F_law_word_of) (aCons (eCut (eVar 0) oNone (oSome (eB2 dIx (eVar 5) (eC (.int 0))))) (aCons (eVar 4) aNil)))) (sFor (iSeq (eVar 4)) (tgName 7) soundBody)) (ks.map lookD)
          [some (logD cs), some (looksD lks), some (.int a), some (.int b), some (.lst ((rangeI a b).map .int)), e5, e6, e7]) := by
    intro ks
    induction ks with
    | nil => intro e5 e6 e7 _ he; rw [List.map_nil, Step.nil, he]; simp [soundB]
    | cons k ks ih =>
      intro e5 e6 e7 hk he
      rw [List.map_cons, Step.cons (en1 := [some (logD cs), some (looksD lks), some (.int a), some (.int b), some (.lst ((rangeI a b).map .int)), some (lookD k), e6, e7]) (by rfl)]
      have hk0 := hk k List.mem_cons_self
      simp [logD, cutD_to, ← List.map_take, lookD]
      refine (law_word_of_ok (cs.take k.1) (rangeI a b)).imp ?_
      rintro _ rfl
      refine sound_inner hk0 (lastW_q _ _) _ _ _ _ _ _ _ (fun r hr => by rw [mem_rangeI] at hr; omega) (fun h e => ?_) (fun h => ?_)
      · exact ih _ _ _ (fun lk h => hk lk (List.mem_cons_of_mem _ h)) (by rw [he]; simp [soundB, h])
      · rw [he]; simp [soundB, h]
  exact key lks none none none hl rfl

/-! ### stretch_is_sound -/
theorem stretch_is_sound_ok (cs : List (Nat × Str)) (lks : List (Nat × List D)) (a b : Int) (n : Nat) (hn : n ≤ 1000) (ha : 0 ≤ a) (hb : b ≤ n) (hl : ∀ lk ∈ lks, LookOk n lk) (hb0 : 0 ≤ b) (ha1 : a ≤ 1000) :
    Rp (fun d => d = .bl (soundB cs lks (rangeI a b))) (F_stretch_is_sound [logD cs, looksD lks, .int a, .int b]) := by
  simp [F_stretch_is_sound, B_stretch_is_sound, F_stretch_rooms, B_stretch_rooms, looksD, wp_rg2 (i := a) (j := b) (by omega) (by omega) (by omega), rangeD_eq]
  have key : ∀ (ks : List (Nat × List D)) (e5 e6 e7 : Option D), (∀ lk ∈ ks, LookOk n lk) → soundB cs lks (rangeI a b) = soundB cs ks (rangeI a b) →
      Step (kThen (fun x => False) (fun d => d = .bl (soundB cs lks (rangeI a b))) (fun _ => False) (fun _ => False) (sRet (eC (.bl true)))) (fun d => d = .bl (soundB cs lks (rangeI a b))) (fun _ => False) (fun _ => False)
        (forL (tgName 5) (sSeq (sSet 6 (eCall (nArgs 2 F_word_of) (aCons (eCall (nArgs 2 F_first_calls) (aCons (eVar 0) (aCons (eVar 5) aNil))) (aCons (eVar 4) aNil)))) (sFor (iSeq (eVar 4)) (tgName 7) soundBody)) (ks.map lookD)
          [some (logD cs), some (looksD lks), some (.int a), some (.int b), some (.tup ((rangeI a b).map .int)), e5, e6, e7]) := by
    intro ks
    induction ks with
    | nil => intro e5 e6 e7 _ he; rw [List.map_nil, Step.nil, he]; simp [soundB]
    | cons k ks ih =>
      intro e5 e6 e7 hk he
      rw [List.map_cons, Step.cons (en1 := [some (logD cs), some (looksD lks), some (.int a), some (.int b), some (.tup ((rangeI a b).map .int)), some (lookD k), e6, e7]) (by rfl)]
      have hk0 := hk k List.mem_cons_self
      simp [F_first_calls, B_first_calls, logD, cutD_to, ← List.map_take, lookD]
      refine (word_of_ok (cs.take k.1) (rangeI a b)).imp ?_
      rintro _ rfl
      refine sound_inner hk0 (lastW_q _ _) _ _ _ _ _ _ _ (fun r hr => by rw [mem_rangeI] at hr; omega) (fun h e => ?_) (fun h => ?_)
      · exact ih _ _ _ (fun lk h => hk lk (List.mem_cons_of_mem _ h)) (by rw [he]; simp [soundB, h])
      · rw [he]; simp [soundB, h]
  exact key lks none none none hl rfl

/-! ### cuts_math -/
/-- from a over the cuts c to b, each stretch sound -/
def Path (S : Nat → Nat → Bool) : Nat → List Nat → Nat → Prop
  | a, [], b => a < b ∧ S a b = true
  | a, c :: cs, b => (a < c ∧ S a c = true) ∧ Path S c cs b
theorem Path.lt {S : Nat → Nat → Bool} : ∀ {a : Nat} {c : List Nat} {b : Nat}, Path S a c b → a < b
  | a, [], b, h => h.1
  | a, c :: cs, b, h => Nat.lt_trans h.1.1 (Path.lt h.2)
theorem path_snoc {S : Nat → Nat → Bool} : ∀ {a : Nat} {c : List Nat} {s b : Nat}, Path S a (c ++ [s]) b ↔ Path S a c s ∧ s < b ∧ S s b = true
  | a, [], s, b => by simp [Path]
  | a, c :: cs, s, b => by simp [Path, path_snoc (a := c), and_assoc]
theorem path_last {S : Nat → Nat → Bool} {a : Nat} {c : List Nat} {b : Nat} (h : Path S a c b) : (c = [] ∧ a < b ∧ S a b = true) ∨ ∃ c' s, c = c' ++ [s] ∧ Path S a c' s ∧ s < b ∧ S s b = true := by
  by_cases hc : c = []
  · subst hc; exact .inl ⟨rfl, h⟩
  · refine .inr ⟨c.dropLast, c.getLast hc, (List.dropLast_concat_getLast hc).symm, ?_⟩
    rw [← List.dropLast_concat_getLast hc] at h
    exact path_snoc.mp h
/-- from a to n in k stretches -/
def Hop (S : Nat → Nat → Bool) (n : Nat) : Nat → Nat → Prop
  | 0, a => a = n
  | k + 1, a => ∃ b, a < b ∧ b ≤ n ∧ S a b = true ∧ Hop S n k b
theorem hop_path {S : Nat → Nat → Bool} {n : Nat} : ∀ {k a : Nat}, Hop S n (k + 1) a ↔ ∃ c, c.length = k ∧ Path S a c n
  | 0, a => by
    constructor
    · rintro ⟨b, h1, h2, h3, rfl⟩; exact ⟨[], rfl, h1, h3⟩
    · rintro ⟨c, hc, h⟩
      rw [List.length_eq_zero_iff] at hc; subst hc
      exact ⟨n, h.1, Nat.le_refl _, h.2, rfl⟩
  | k + 1, a => by
    constructor
    · rintro ⟨b, h1, h2, h3, h4⟩
      obtain ⟨c, hc, hp⟩ := (hop_path (k := k)).mp h4
      exact ⟨b :: c, by simp [hc], ⟨h1, h3⟩, hp⟩
    · rintro ⟨c, hc, h⟩
      match c, hc, h with
      | b :: c, hc, h => exact ⟨b, h.1.1, Nat.le_of_lt h.2.lt, h.1.2, (hop_path (k := k)).mpr ⟨c, by simpa using hc, h.2⟩⟩
/-- the fewest stretches from a to n: a number or none -/
def Few (S : Nat → Nat → Bool) (n a : Nat) : Option Nat → Prop
  | none => ∀ k, ¬ Hop S n k a
  | some k => Hop S n k a ∧ ∀ j, Hop S n j a → k ≤ j
theorem Few.unique {S : Nat → Nat → Bool} {n a : Nat} {x y : Option Nat} (h : Few S n a x) (g : Few S n a y) : x = y := by
  cases x with
  | none => cases y with
    | none => rfl
    | some k => exact (h k g.1).elim
  | some j => cases y with
    | none => exact (g j h.1).elim
    | some k => rw [Nat.le_antisymm (h.2 k g.1) (g.2 j h.1)]
open PySem.W in
/-- the rest c of the cuts from p on: as few as can be, the least among those -/
def Best (S : Nat → Nat → Bool) (n p : Nat) (c : List Nat) : Prop :=
  Path S p c n ∧ (∀ c', Path S p c' n → c.length ≤ c'.length) ∧ ∀ c', Path S p c' n → c'.length = c.length → listLt (c'.map fun (x : Nat) => (x : Int)) (c.map fun (x : Nat) => (x : Int)) = false
open PySem.W in
theorem best_step {S : Nat → Nat → Bool} {n p k e : Nat} {c : List Nat} (hk : Few S n p (some (k + 2))) (he : p < e ∧ S p e = true) (h1 : Few S n e (some (k + 1))) (hmin : ∀ b, p < b → b ≤ n → S p b = true → Few S n b (some (k + 1)) → e ≤ b) (h : Best S n e c) : Best S n p (e :: c) := by
  have lenc : c.length = k := by
    obtain ⟨c', hc', hp⟩ := hop_path.mp h1.1
    have := h.2.1 c' hp
    have := h1.2 (c.length + 1) (hop_path.mpr ⟨c, rfl, h.1⟩)
    omega
  refine ⟨⟨he, h.1⟩, fun c' hp => ?_, fun c' hp hl => ?_⟩
  · have := hk.2 (c'.length + 1) (hop_path.mpr ⟨c', rfl, hp⟩)
    rw [List.length_cons]; omega
  · match c', hp, hl with
    | b :: c', hp, hl =>
      rw [List.length_cons, List.length_cons] at hl
      have hb : Few S n b (some (k + 1)) := by
        refine ⟨hop_path.mpr ⟨c', by omega, hp.2⟩, fun j hj => ?_⟩
        have := hk.2 (j + 1) ⟨b, hp.1.1, Nat.le_of_lt hp.2.lt, hp.1.2, hj⟩
        omega
      have hle := hmin b hp.1.1 (Nat.le_of_lt hp.2.lt) hp.1.2 hb
      rw [List.map_cons, List.map_cons, listLt]
      split
      · rename_i hbe
        have : b = e := by omega
        subst this
        exact h.2.2 c' hp.2 (by omega)
      · rename_i hbe
        show decide ((b : Int) < (e : Int)) = false
        simp; omega
theorem best_end {S : Nat → Nat → Bool} {n p : Nat} (h : Few S n p (some 1)) : Best S n p [] := by
  obtain ⟨c, hc, hp⟩ := hop_path.mp h.1
  rw [List.length_eq_zero_iff] at hc; subst hc
  refine ⟨hp, fun c' _ => Nat.zero_le _, fun c' hp' hl => ?_⟩
  rw [List.length_nil, List.length_eq_zero_iff] at hl; subst hl
  simp [PySem.W.listLt]

/-! ### sound_ends -/
def natD (n : Nat) : D := .int (n : Int)
def natsD (l : List Nat) : D := .lst (l.map natD)
/-- which ends lie behind each start -/
def Ends (S : Nat → Nat → Bool) (n : Nat) (es : List (List Nat)) : Prop := es.length = n + 1 ∧ ∀ a f, es[a]? = some f → f.length ≤ n ∧ ∀ b, b ∈ f ↔ a < b ∧ b ≤ n ∧ S a b = true
def endsD (es : List (List Nat)) : D := .lst (es.map natsD)
def soundS (cs : List (Nat × Str)) (lks : List (Nat × List D)) (a b : Nat) : Bool := soundB cs lks (rangeI a b)
theorem range_get {n i : Nat} {d : D} (h : (rangeD 0 (n : Int))[i]? = some d) : d = .int (i : Int) ∧ i < n := by
  obtain ⟨h1, h2⟩ := rangeD_get h
  exact ⟨by rw [h1]; congr 1; omega, by omega⟩
theorem sound_ends_ok (cs : List (Nat × Str)) (lks : List (Nat × List D)) (n : Nat) (hn : n ≤ 1000) (hl : ∀ lk ∈ lks, LookOk n lk) :
    Rp (fun d => ∃ es, d = endsD es ∧ Ends (soundS cs lks) n es) (F_sound_ends [.int (n : Int), logD cs, looksD lks]) := by
  simp [F_sound_ends, B_sound_ends, small_int (j := (n : Int) + 1) (by omega)]
  refine Step.loop (fun i en => ∃ (es : List (List Nat)) (e4 e5 e6 : Option D), en = [some (.int (n : Int)), some (logD cs), some (looksD lks), some (endsD es), e4, e5, e6] ∧ es.length = i ∧ ∀ a f, es[a]? = some f → f.length ≤ n ∧ ∀ b, b ∈ f ↔ a < b ∧ b ≤ n ∧ soundS cs lks a b = true)
    ⟨[], _, _, _, rfl, rfl, by simp⟩ ?_ ?_
  · rintro i d en hd ⟨es, e4, e5, e6, rfl, h2, h3⟩
    obtain ⟨rfl, hi⟩ := range_get (n := n + 1) (by simpa using hd)
    refine ⟨_, rfl, ?_⟩
    simp
    refine ⟨⟨small_int (by omega), small_int (by omega)⟩, Step.loop (fun j en => ∃ (f : List Nat) (e6 : Option D), en = [some (.int (n : Int)), some (logD cs), some (looksD lks), some (endsD es), some (.int (i : Int)), some (natsD f), e6] ∧ f.length ≤ j ∧ ∀ b, b ∈ f ↔ i < b ∧ b < i + 1 + j ∧ soundS cs lks i b = true)
      ⟨[], _, rfl, Nat.le_refl _, fun b => ⟨fun h => by simp at h, fun h => by omega⟩⟩ ?_ ?_⟩
    · rintro j d en hd ⟨f, e6, rfl, h4, h5⟩
      obtain ⟨rfl, hj⟩ := rangeD_get hd
      refine ⟨_, rfl, ?_⟩
      have hb : ((i : Int) + 1 + (j : Int)) = ((i + 1 + j : Nat) : Int) := by omega
      simp
      rw [hb]
      refine (stretch_is_sound_ok cs lks (i : Int) ((i + 1 + j : Nat) : Int) n hn (by omega) (by omega) hl (by omega) (by omega)).imp ?_
      rintro _ rfl
      simp
      have hS : soundB cs lks (rangeI (i : Int) ((i : Int) + 1 + (j : Int))) = soundS cs lks i (i + 1 + j) := by unfold soundS; rw [← hb]
      rw [hS]
      cases q : soundS cs lks i (i + 1 + j) with
      | true =>
        simp [natsD]
        refine ⟨by omega, f ++ [i + 1 + j], ?_, by simp; omega, fun b => ?_⟩
        · simp [natD]
        · rw [List.mem_append, h5, List.mem_singleton]
          constructor
          · rintro (h | h)
            · exact ⟨h.1, by omega, h.2.2⟩
            · subst h; exact ⟨by omega, by omega, q⟩
          · intro h
            by_cases hb : b = i + 1 + j
            · exact .inr hb
            · exact .inl ⟨h.1, by omega, h.2.2⟩
      | false =>
        simp
        refine ⟨f, rfl, by omega, fun b => ?_⟩
        rw [h5]
        constructor
        · intro h; exact ⟨h.1, by omega, h.2.2⟩
        · intro h
          refine ⟨h.1, ?_, h.2.2⟩
          by_cases hb : b = i + 1 + j
          · subst hb; rw [q] at h; exact absurd h.2.2 (by decide)
          · omega
    · rintro en ⟨f, e6, rfl, h4, h5⟩
      rw [rangeD_length] at h4 h5
      simp [endsD]
      refine ⟨by omega, es ++ [f], by simp, by simp [h2], fun a g hg => ?_⟩
      by_cases ha : a < es.length
      · rw [List.getElem?_append_left ha] at hg
        exact h3 a g hg
      · rw [List.getElem?_append_right (by omega)] at hg
        have hae : a = i := by
          have := (List.getElem?_eq_some_iff.mp hg).1
          simp at this; omega
        subst hae
        rw [h2] at hg
        simp at hg
        subst hg
        exact ⟨by omega, fun b => (h5 b).trans ⟨fun h => ⟨h.1, by omega, h.2.2⟩, fun h => ⟨h.1, by omega, h.2.2⟩⟩⟩
  · rintro en ⟨es, e4, e5, e6, rfl, h2, h3⟩
    rw [rangeD_length] at h2
    simp
    exact ⟨es, rfl, by omega, h3⟩

/-! ### law_cuts_up_to -/
def cutsT (c : List Nat) : D := .tup (c.map natD)
def waysD (w : List (List Nat)) : D := .lst (w.map cutsT)
/-- the cuts in front of a place -/
def WayTo (S : Nat → Nat → Bool) (p : Nat) (c : List Nat) : Prop := if p = 0 then c = [] else Path S 0 c p
def Ways (S : Nat → Nat → Bool) (n : Nat) (ws : List (List (List Nat))) : Prop := ws.length = n ∧ ∀ p w, ws[p]? = some w → w.length ≤ 2 ^ p ∧ ∀ c, c ∈ w ↔ WayTo S p c
theorem way_step {S : Nat → Nat → Bool} {p : Nat} (hp : 0 < p) (c : List Nat) : WayTo S p c ↔ ∃ s, s < p ∧ S s p = true ∧ (if s = 0 then c = [] else ∃ c', c = c' ++ [s] ∧ WayTo S s c') := by
  unfold WayTo
  rw [if_neg (by omega)]
  constructor
  · intro h
    rcases path_last h with ⟨rfl, h1, h2⟩ | ⟨c', s, rfl, h1, h2, h3⟩
    · exact ⟨0, hp, h2, rfl⟩
    · have := h1.lt
      exact ⟨s, h2, h3, by rw [if_neg (by omega)]; exact ⟨c', rfl, by rw [if_neg (by omega)]; exact h1⟩⟩
  · rintro ⟨s, h1, h2, h3⟩
    by_cases hs : s = 0
    · subst hs
      rw [if_pos rfl] at h3; subst h3
      exact ⟨hp, h2⟩
    · rw [if_neg hs] at h3
      obtain ⟨c', rfl, h4⟩ := h3
      rw [if_neg hs] at h4
      exact path_snoc.mpr ⟨h4, h1, h2⟩
theorem law_cuts_ok (cs : List (Nat × Str)) (lks : List (Nat × List D)) (n : Nat) (hn : n ≤ 12) (hl : ∀ lk ∈ lks, LookOk n lk) :
    Rp (fun d => ∃ ws, d = .lst (ws.map waysD) ∧ Ways (soundS cs lks) (n + 1) ws) (F_law_cuts_up_to [.int (n : Int), logD cs, looksD lks]) := by
  simp [F_law_cuts_up_to, B_law_cuts_up_to]
  refine ⟨⟨by decide, small_int (by omega)⟩, Step.loop (fun i en => ∃ (ws : List (List (List Nat))) (e4 e5 e6 e7 : Option D), en = [some (.int (n : Int)), some (logD cs), some (looksD lks), some (.lst (ws.map waysD)), e4, e5, e6, e7] ∧ Ways (soundS cs lks) (i + 1) ws)
    ⟨[[[]]], _, _, _, _, rfl, rfl, ?_⟩ ?_ ?_⟩
  · intro p w h
    cases p with
    | zero => simp at h; subst h; simp [WayTo]
    | succ p => simp at h
  · rintro i d en hd ⟨ws, e4, e5, e6, e7, rfl, h2, h3⟩
    obtain ⟨rfl, hi⟩ := rangeD_get hd
    refine ⟨_, rfl, ?_⟩
    have hb : (1 + (i : Int)) = ((i + 1 : Nat) : Int) := by omega
    rw [hb]
    have hpow : (2 : Nat) ^ (i + 1) ≤ 2 ^ 12 := Nat.pow_le_pow_right (by omega) (by omega)
    have h12 : (2 : Nat) ^ 12 = 4096 := rfl
    simp
    refine ⟨small_int (by omega), Step.loop (fun j en => ∃ (f : List (List Nat)) (e6 e7 : Option D), en = [some (.int (n : Int)), some (logD cs), some (looksD lks), some (.lst (ws.map waysD)), some (.int ((i : Int) + 1)), some (waysD f), e6, e7] ∧ f.length + 1 ≤ 2 ^ j ∧
        ∀ c, c ∈ f ↔ ∃ s, s < j ∧ soundS cs lks s (i + 1) = true ∧ (if s = 0 then c = [] else ∃ c', c = c' ++ [s] ∧ WayTo (soundS cs lks) s c'))
      ⟨[], _, _, rfl, Nat.le_refl _, fun c => ⟨fun h => by simp at h, fun ⟨s, h, _⟩ => by omega⟩⟩ ?_ ?_⟩
    · rintro j d en hd ⟨f, e6, e7, rfl, h4, h5⟩
      obtain ⟨rfl, hj⟩ := range_get (n := i + 1) (by simpa using hd)
      refine ⟨_, rfl, ?_⟩
      obtain ⟨w, hw⟩ : ∃ w, ws[j]? = some w := ⟨_, List.getElem?_eq_getElem (by omega)⟩
      obtain ⟨hw1, hw2⟩ := h3 j w hw
      have hpj : (2 : Nat) ^ (j + 1) = 2 ^ j + 2 ^ j := by rw [Nat.pow_succ]; omega
      have hpj2 : (2 : Nat) ^ (j + 1) ≤ 2 ^ (i + 1) := Nat.pow_le_pow_right (by omega) (by omega)
      have one : 1 ≤ 2 ^ j := Nat.one_le_two_pow
      -- nothing new
      have skip : ((∀ c, ¬ WayTo (soundS cs lks) j c) ∨ soundS cs lks j (i + 1) = false) → f.length + 1 ≤ 2 ^ (j + 1) ∧
          ∀ c, c ∈ f ↔ ∃ s, s < j + 1 ∧ soundS cs lks s (i + 1) = true ∧ (if s = 0 then c = [] else ∃ c', c = c' ++ [s] ∧ WayTo (soundS cs lks) s c') := by
        intro hx
        refine ⟨by omega, fun c => (h5 c).trans ⟨fun ⟨s, q1, q2, q3⟩ => ⟨s, by omega, q2, q3⟩, fun ⟨s, q1, q2, q3⟩ => ?_⟩⟩
        by_cases hs : s = j
        · subst hs
          rcases hx with hx | hx
          · by_cases hs0 : s = 0
            · subst hs0; exact (hx [] rfl).elim
            · rw [if_neg hs0] at q3
              obtain ⟨c', _, q4⟩ := q3
              exact (hx c' q4).elim
          · rw [hx] at q2; cases q2
        · exact ⟨s, by omega, q2, q3⟩
      simp
      refine ⟨w, by rw [at_nat]; exact hw, ?_⟩
      simp [waysD]
      cases w with
      | nil =>
        simp
        exact ⟨f, rfl, skip (.inl fun c hc => by have := (hw2 c).mpr hc; simp at this)⟩
      | cons w0 w' =>
        simp [show (0 : Int) < (w'.length : Int) + 1 from by omega]
        refine (law_sound_ok cs lks (j : Int) ((i : Int) + 1) n (by omega) (by omega) (by omega) hl (by omega) (by omega)).imp ?_
        rintro _ rfl
        simp
        have hS : soundB cs lks (rangeI (j : Int) ((i : Int) + 1)) = soundS cs lks j (i + 1) := by unfold soundS; congr 2
        rw [hS]
        cases q : soundS cs lks j (i + 1) with
        | false =>
          simp
          exact ⟨f, rfl, skip (.inr q)⟩
        | true =>
          by_cases hj0 : j = 0
          · subst hj0
            simp
            have hf : f = [] := by
              cases f with
              | nil => rfl
              | cons => simp at h4
            subst hf
            refine ⟨by simp, [[]], by simp [cutsT], by simp, fun c => ?_⟩
            simp [q]
          · simp [show ¬ (j : Int) = 0 from by omega, hj0]
            refine ⟨w0 :: w', by rw [at_nat]; exact hw, ?_⟩
            simp only [waysD, ev_seqL, Rp_ok, wp_kLc, List.length_map, List.map_map]
            refine Rp.lc (fun _ => true) (fun d => match d with | .tup ds => .tup (ds ++ [natD j]) | d => d) (fun d hd => ?_) (by rw [List.length_map]; omega) ?_
            · obtain ⟨c, hc, rfl⟩ := List.mem_map.mp hd
              refine ⟨_, rfl, .ok rfl, fun _ => ?_⟩
              simp [cutsT]
              have hc' := (hw2 c).mp hc
              have hlen : c.length ≤ j := by
                unfold WayTo at hc'
                rw [if_neg hj0] at hc'
                have : ∀ (c : List Nat) (a b : Nat), Path (soundS cs lks) a c b → c.length + a < b + 1 := by
                  intro c
                  induction c with
                  | nil => intro a b h; have := h.1; simp; omega
                  | cons x c ih => intro a b h; have := ih x b h.2; have := h.1.1; simp; omega
                have := this c 0 j hc'
                omega
              exact ⟨by omega, rfl⟩
            · rw [List.filter_eq_self.mpr fun _ _ => rfl]
              simp
              have e : (fun c => (match cutsT c with | .tup ds => D.tup (ds ++ [natD j]) | d => d)) = fun c => cutsT (c ++ [j]) := by
                funext c; simp [cutsT]
              refine ⟨by simp at hw1; omega, f ++ (w0 :: w').map (· ++ [j]), ?_, by simp at hw1 ⊢; omega, fun c => ?_⟩
              · simp [cutsT]
              · rw [List.mem_append, h5, List.mem_map]
                constructor
                · rintro (⟨s, q1, q2, q3⟩ | ⟨c', hc', rfl⟩)
                  · exact ⟨s, by omega, q2, q3⟩
                  · exact ⟨j, by omega, q, by rw [if_neg hj0]; exact ⟨c', rfl, (hw2 c').mp hc'⟩⟩
                · rintro ⟨s, q1, q2, q3⟩
                  by_cases hs : s = j
                  · subst hs
                    rw [if_neg hj0] at q3
                    obtain ⟨c', rfl, q4⟩ := q3
                    exact .inr ⟨c', (hw2 c').mpr q4, rfl⟩
                  · exact .inl ⟨s, by omega, q2, q3⟩
    · rintro en ⟨f, e6, e7, rfl, h4, h5⟩
      have hlen : (rangeD 0 ((i : Int) + 1)).length = i + 1 := by rw [rangeD_length]; omega
      rw [hlen] at h4 h5
      simp
      refine ⟨by omega, ws ++ [f], by simp, by simp [h2], fun p g hg => ?_⟩
      by_cases hp : p < ws.length
      · rw [List.getElem?_append_left hp] at hg
        exact h3 p g hg
      · rw [List.getElem?_append_right (by omega)] at hg
        have hpe : p = i + 1 := by
          have := (List.getElem?_eq_some_iff.mp hg).1
          simp at this; omega
        subst hpe
        rw [h2] at hg
        simp at hg
        subst hg
        exact ⟨by omega, fun c => (h5 c).trans (way_step (by omega) c).symm⟩
  · rintro en ⟨ws, e4, e5, e6, e7, rfl, h2⟩
    have hlen : (rangeD 1 ((n : Int) + 1)).length = n := by rw [rangeD_length]; omega
    rw [hlen] at h2
    simp
    exact ⟨ws, rfl, h2⟩

/-! ### fewest -/
def fD : Option Nat → D
  | none => .non
  | some k => .int (k : Int)
def fAt (fs : List (Option Nat)) (b : Nat) : Option Nat := (fs[b]?).getD none
theorem fAt_eq {fs : List (Option Nat)} {b : Nat} {x : Option Nat} (h : fs[b]? = some x) : fAt fs b = x := by unfold fAt; rw [h]; rfl
theorem fAt_ne {fs : List (Option Nat)} {a b : Nat} {x : Option Nat} (h : a ≠ b) : fAt (fs.set a x) b = fAt fs b := by unfold fAt; rw [List.getElem?_set_ne h]
theorem fAt_self {fs : List (Option Nat)} {a : Nat} {x : Option Nat} (h : a < fs.length) : fAt (fs.set a x) a = x := fAt_eq (List.getElem?_set_self h)
/-- the fewest from each place on -/
def Fews (S : Nat → Nat → Bool) (n : Nat) (fs : List (Option Nat)) : Prop := fs.length = n + 1 ∧ ∀ a x, fs[a]? = some x → Few S n a x
theorem hop_le {S : Nat → Nat → Bool} {n : Nat} : ∀ {k a : Nat}, Hop S n k a → a + k ≤ n
  | 0, a, h => by have : a = n := h; omega
  | k + 1, a, ⟨b, h1, h2, h3, h4⟩ => by have := hop_le h4; omega
theorem few_of {S : Nat → Nat → Bool} {n a : Nat} (ha : a < n) {E : List Nat} (hE : ∀ b, b ∈ E ↔ a < b ∧ b ≤ n ∧ S a b = true) {fs : List (Option Nat)} (hfs : ∀ b, a < b → b ≤ n → Few S n b (fAt fs b)) :
    ((∀ b ∈ E, fAt fs b = none) → Few S n a none) ∧ ∀ m, (∃ b ∈ E, fAt fs b = some m) → (∀ b ∈ E, ∀ k, fAt fs b = some k → m ≤ k) → Few S n a (some (m + 1)) := by
  constructor
  · intro h k hk
    cases k with
    | zero => have : a = n := hk; omega
    | succ k =>
      obtain ⟨b, h1, h2, h3, h4⟩ := hk
      have := hfs b h1 h2
      rw [h b ((hE b).mpr ⟨h1, h2, h3⟩)] at this
      exact this k h4
  · rintro m ⟨b, hb, hm⟩ hmin
    obtain ⟨h1, h2, h3⟩ := (hE b).mp hb
    have hf := hfs b h1 h2
    rw [hm] at hf
    refine ⟨⟨b, h1, h2, h3, hf.1⟩, fun j hj => ?_⟩
    cases j with
    | zero => have : a = n := hj; omega
    | succ j =>
      obtain ⟨b', g1, g2, g3, g4⟩ := hj
      have hf' := hfs b' g1 g2
      cases q : fAt fs b' with
      | none => rw [q] at hf'; exact (hf' j g4).elim
      | some k' =>
        rw [q] at hf'
        have := hmin b' ((hE b').mpr ⟨g1, g2, g3⟩) k' q
        have := hf'.2 j g4
        omega
def isS (fs : List (Option Nat)) : D → Bool
  | .int k => (fAt fs k.toNat).isSome
  | _ => false
def theS (fs : List (Option Nat)) : D → D
  | .int k => fD (fAt fs k.toNat)
  | d => d
theorem picks_ints (fs : List (Option Nat)) : ∀ E : List Nat, ((E.map natD).filter (isS fs)).map (theS fs) = (E.filterMap fun b => (fAt fs b).map fun (k : Nat) => (k : Int)).map .int
  | [] => rfl
  | b :: E => by
    have ih := picks_ints fs E
    rw [List.map_cons, List.filterMap_cons]
    cases q : fAt fs b with
    | none =>
      have : isS fs (natD b) = false := by show (fAt fs (b : Int).toNat).isSome = false; rw [Int.toNat_natCast, q]; rfl
      rw [List.filter_cons_of_neg (by rw [this]; decide), ih]; rfl
    | some k =>
      have : isS fs (natD b) = true := by show (fAt fs (b : Int).toNat).isSome = true; rw [Int.toNat_natCast, q]; rfl
      rw [List.filter_cons_of_pos this, List.map_cons, ih]
      have e : theS fs (natD b) = .int (k : Int) := by show fD (fAt fs (b : Int).toNat) = _; rw [Int.toNat_natCast, q]; rfl
      rw [e]; rfl
theorem fs_at {fs : List (Option Nat)} {b : Nat} (h : b < fs.length) : atI fs (b : Int) = some (fAt fs b) := by
  unfold fAt; rw [at_nat, List.getElem?_eq_getElem h]; rfl
theorem fD_flat (x : Option Nat) : isFlat (fD x) = true := by cases x <;> rfl
theorem fewest_stretches_ok {S : Nat → Nat → Bool} {n : Nat} (hn : n ≤ 1000) {es : List (List Nat)} (hE : Ends S n es) :
    Rp (fun d => ∃ fs : List (Option Nat), d = .lst (fs.map fD) ∧ Fews S n fs) (F_fewest_stretches [endsD es]) := by
  obtain ⟨hE1, hE2⟩ := hE
  simp [F_fewest_stretches, B_fewest_stretches, endsD]
  refine ⟨by omega, n, ?_, ?_⟩
  · simp [hE1]
    rw [ixN_neg1 (by simp [List.flatten_replicate_singleton])]
    simp
  simp [hE1, small_int (j := (n : Int)) (by omega)]
  refine Step.loop (fun i en => ∃ (fs : List (Option Nat)) (e2 e3 e4 : Option D), en = [some (endsD es), some (.lst (fs.map fD)), e2, e3, e4] ∧ fs.length = n + 1 ∧ (∀ a, a + i < n → fAt fs a = none) ∧ ∀ a, n ≤ a + i → a ≤ n → Few S n a (fAt fs a))
    ⟨(List.replicate (n + 1) none).set n (some 0), none, none, none, ?_, by simp, fun a ha => ?_, fun a ha ha' => ?_⟩ ?_ ?_
  · rw [List.map_set, List.map_replicate]; rfl
  · rw [fAt_ne (by omega)]
    unfold fAt
    rw [List.getElem?_replicate]
    split <;> rfl
  · have : a = n := by omega
    subst this
    rw [fAt_self (by simp)]
    exact ⟨rfl, fun j _ => Nat.zero_le _⟩
  · rintro i d en hd ⟨fs, e2, e3, e4, rfl, h2, h3, h4⟩
    have hi : i < n := by
      have := (List.getElem?_eq_some_iff.mp hd).1
      rw [List.length_reverse, rangeD_length] at this; omega
    rw [List.getElem?_reverse (by rw [rangeD_length]; omega), rangeD_length] at hd
    obtain ⟨hd1, _⟩ := range_get hd
    obtain ⟨a, ha⟩ : ∃ a, a + i + 1 = n := ⟨n - 1 - i, by omega⟩
    have hda : d = .int (a : Int) := by rw [hd1]; congr 1; omega
    subst hda
    refine ⟨_, rfl, ?_⟩
    obtain ⟨E, hEa⟩ : ∃ E, es[a]? = some E := ⟨_, List.getElem?_eq_getElem (by omega)⟩
    obtain ⟨hE3, hE4⟩ := hE2 a E hEa
    simp [endsD]
    refine ⟨E, by rw [at_nat]; exact hEa, ?_⟩
    simp only [natsD, ev_seqL, Rp_ok, wp_kLc]
    refine Rp.lc (isS fs) (theS fs) (fun d hd => ?_) (by rw [List.length_map]; omega) ?_
    · obtain ⟨b, hb, rfl⟩ := List.mem_map.mp hd
      obtain ⟨b1, b2, b3⟩ := (hE4 b).mp hb
      refine ⟨_, rfl, ?_, fun _ => ?_⟩
      · simp [natD]
        refine ⟨_, fs_at (by omega), ?_⟩
        show Rp _ (dNotN (fD (fAt fs b)) .non)
        simp only [isS, Int.toNat_natCast]
        cases fAt fs b <;> simp [fD]
      · simp [natD]
        exact ⟨_, fs_at (by omega), by simp [theS], fD_flat _⟩
    · rw [picks_ints]
      have hfew := few_of (S := S) (n := n) (a := a) (by omega) hE4 (fs := fs) (fun b hb hb' => h4 b (by omega) hb')
      generalize hl : (E.filterMap fun b => (fAt fs b).map fun (k : Nat) => (k : Int)) = l
      have hmem : ∀ x, x ∈ l ↔ ∃ b ∈ E, ∃ k : Nat, fAt fs b = some k ∧ (k : Int) = x := by
        intro x
        rw [← hl, List.mem_filterMap]
        constructor
        · rintro ⟨b, hb, h⟩
          obtain ⟨k, h1, h2⟩ := Option.map_eq_some_iff.mp h
          exact ⟨b, hb, k, h1, h2⟩
        · rintro ⟨b, hb, k, h1, h2⟩
          exact ⟨b, hb, by rw [h1, ← h2]; rfl⟩
      cases l with
      | nil =>
        simp
        refine ⟨fs, rfl, h2, fun b hb => h3 b (by omega), fun b hb hb' => ?_⟩
        by_cases hba : b = a
        · subst hba
          rw [h3 b (by omega)]
          refine hfew.1 fun c hc => ?_
          cases q : fAt fs c with
          | none => rfl
          | some k => exact absurd ((hmem k).mpr ⟨c, hc, k, q, rfl⟩) (by simp)
        · exact h4 b (by omega) hb'
      | cons x l =>
        obtain ⟨m, hm1, hm2, hm3⟩ := minL_ints (l := x :: l) (by simp)
        obtain ⟨b, hb, k, hk, rfl⟩ := (hmem m).mp hm1
        rw [List.map_cons] at hm3
        simp [hm3, ixN_nat, h2]
        refine ⟨a, ixN_nat (by omega), fs.set a (some (k + 1)), by simp [fD], by simp [h2], fun c hc => ?_, fun c hc hc' => ?_⟩
        · rw [fAt_ne (by omega)]
          exact h3 c (by omega)
        · by_cases hca : c = a
          · subst hca
            rw [fAt_self (by omega)]
            refine hfew.2 k ⟨b, hb, hk⟩ fun b' hb' k' hk' => ?_
            have := hm2 k' ((hmem k').mpr ⟨b', hb', k', hk', rfl⟩)
            omega
          · rw [fAt_ne (by omega)]
            exact h4 c (by omega) hc'
  · rintro en ⟨fs, e2, e3, e4, rfl, h2, h3, h4⟩
    rw [List.length_reverse, rangeD_length] at h4
    simp
    refine ⟨fs, rfl, h2, fun a x hx => ?_⟩
    have := h4 a (by omega) (by have := (List.getElem?_eq_some_iff.mp hx).1; omega)
    rw [fAt_eq hx] at this
    exact this

/-! ### fewest_cuts -/
def eqS (fs : List (Option Nat)) (x : Int) : D → Bool
  | .int k => match fAt fs k.toNat with
    | some j => decide ((j : Int) = x)
    | none => false
  | _ => false
def isK (fs : List (Option Nat)) (m b : Nat) : Bool := match fAt fs b with
  | some j => decide (j = m)
  | none => false
theorem isK_iff {fs : List (Option Nat)} {m b : Nat} : isK fs m b = true ↔ fAt fs b = some m := by
  unfold isK
  cases fAt fs b <;> simp
theorem first_end_ok {S : Nat → Nat → Bool} {n p k : Nat} (hn : n ≤ 1000) {es : List (List Nat)} (hE : Ends S n es) {fs : List (Option Nat)} (hF : Fews S n fs) (hp : Few S n p (some (k + 2))) (hpn : p ≤ n) :
    Rp (fun d => ∃ e : Nat, d = .int (e : Int) ∧ p < e ∧ e ≤ n ∧ S p e = true ∧ Few S n e (some (k + 1)) ∧ ∀ b, p < b → b ≤ n → S p b = true → Few S n b (some (k + 1)) → e ≤ b)
      (F_first_end [endsD es, .lst (fs.map fD), .int (p : Int)]) := by
  obtain ⟨hE1, hE2⟩ := hE
  obtain ⟨hF1, hF2⟩ := hF
  obtain ⟨E, hEa⟩ : ∃ E, es[p]? = some E := ⟨_, List.getElem?_eq_getElem (by omega)⟩
  obtain ⟨hE3, hE4⟩ := hE2 p E hEa
  have hfat : ∀ b, b ≤ n → Few S n b (fAt fs b) := fun b hb => hF2 b _ (by unfold fAt; rw [List.getElem?_eq_getElem (by omega)]; rfl)
  have hpk : fAt fs p = some (k + 2) := (hfat p hpn).unique hp
  simp [F_first_end, B_first_end, endsD]
  refine ⟨E, by rw [at_nat]; exact hEa, ?_⟩
  simp only [natsD, ev_seqL, Rp_ok, wp_kLc]
  refine Rp.lc (eqS fs ((k : Int) + 1)) id (fun d hd => ?_) (by rw [List.length_map]; omega) ?_
  · obtain ⟨b, hb, rfl⟩ := List.mem_map.mp hd
    obtain ⟨b1, b2, b3⟩ := (hE4 b).mp hb
    refine ⟨_, rfl, ?_, fun _ => ?_⟩
    · simp [natD]
      refine ⟨_, fs_at (by omega), _, fs_at (by omega), ?_⟩
      rw [hpk]
      simp only [fD, ev_dI, Rp_ok]
      simp only [eqS, Int.toNat_natCast]
      cases fAt fs b with
      | none => simp
      | some j =>
        simp
        constructor <;> intro h <;> omega
    · simp [natD]
  · have hlist : ((E.map natD).filter (eqS fs ((k : Int) + 1))).map id = ((E.filter (isK fs (k + 1))).map fun (b : Nat) => (b : Int)).map .int := by
      rw [List.map_id, List.filter_map, List.map_map]
      congr 1
      refine List.filter_congr fun b _ => ?_
      simp only [Function.comp, natD, eqS, Int.toNat_natCast, isK]
      cases fAt fs b with
      | none => rfl
      | some j => simp; omega
    rw [hlist]
    obtain ⟨e0, he0, he1, he2, he3⟩ := hp.1
    have hf0 : Few S n e0 (some (k + 1)) := ⟨he3, fun j hj => by have := hp.2 (j + 1) ⟨e0, he0, he1, he2, hj⟩; omega⟩
    have hmem : ∀ b, b ∈ (E.filter (isK fs (k + 1))) ↔ (p < b ∧ b ≤ n ∧ S p b = true) ∧ Few S n b (some (k + 1)) := by
      intro b
      rw [List.mem_filter, hE4, isK_iff]
      refine and_congr_right fun h => ?_
      constructor
      · intro h'; have := hfat b h.2.1; rw [h'] at this; exact this
      · intro h'; exact (hfat b h.2.1).unique h'
    have hne : ((E.filter (isK fs (k + 1))).map fun (b : Nat) => (b : Int)) ≠ [] := by
      intro h
      rw [List.map_eq_nil_iff] at h
      have := (hmem e0).mpr ⟨⟨he0, he1, he2⟩, hf0⟩
      rw [h] at this
      simp at this
    obtain ⟨m, hm1, hm2, hm3⟩ := minL_ints hne
    obtain ⟨e, he, rfl⟩ := List.mem_map.mp hm1
    simp only [wp_kLst, wp_kA, ev_aNil, Rp_ok, wp_kA2, wp_kU, hm3]
    obtain ⟨⟨q1, q2, q3⟩, q4⟩ := (hmem e).mp he
    refine ⟨e, rfl, q1, q2, q3, q4, fun b b1 b2 b3 b4 => ?_⟩
    have := hm2 b (List.mem_map.mpr ⟨b, (hmem b).mpr ⟨⟨b1, b2, b3⟩, b4⟩, rfl⟩)
    omega
theorem fewest_cuts_ok {S : Nat → Nat → Bool} {n k : Nat} (hn : n ≤ 1000) (hn0 : 0 < n) {es : List (List Nat)} (hE : Ends S n es) {fs : List (Option Nat)} (hF : Fews S n fs) (h0 : Few S n 0 (some k)) :
    Rp (fun d => ∃ c, d = cutsT c ∧ Best S n 0 c) (F_fewest_cuts [endsD es, .lst (fs.map fD)]) := by
  have hfat : ∀ b, b ≤ n → Few S n b (fAt fs b) := fun b hb => hF.2 b _ (by have := hF.1; unfold fAt; rw [List.getElem?_eq_getElem (by omega)]; rfl)
  have hk1 : 1 ≤ k := by
    cases k with
    | zero => have : 0 = n := h0.1; omega
    | succ k => omega
  have hkn := hop_le h0.1
  simp [F_fewest_cuts, B_fewest_cuts]
  refine Step.while_ (fun m en => ∃ (pre : List Nat) (p : Nat), en = [some (endsD es), some (.lst (fs.map fD)), some (natsD pre), some (.int (p : Int))] ∧ p ≤ n ∧ 1 ≤ m ∧ Few S n p (some m) ∧ pre.length + m ≤ n ∧ ∀ rest, Best S n p rest → Best S n 0 (pre ++ rest))
    ?_ k _ ⟨[], 0, rfl, Nat.zero_le _, hk1, h0, by simp; omega, fun rest h => h⟩
  rintro m en ⟨pre, p, rfl, hp, hm, hf, hl, hb⟩
  have hpm : fAt fs p = some m := (hfat p hp).unique hf
  have hF1 := hF.1
  simp
  refine ⟨_, fs_at (by omega), ?_⟩
  rw [hpm]
  simp [fD]
  by_cases h1 : 1 < m
  · obtain ⟨j, rfl⟩ : ∃ j, m = j + 2 := ⟨m - 2, by omega⟩
    simp
    rw [if_pos (by omega)]
    refine (first_end_ok hn hE hF hf hp).imp ?_
    rintro _ ⟨e, rfl, e1, e2, e3, e4, e5⟩
    simp [natsD]
    refine ⟨by omega, j + 1, by omega, pre ++ [e], e, ⟨by simp [natD], rfl⟩, e2, by omega, e4, by simp; omega, fun rest hr => ?_⟩
    rw [List.append_assoc]
    exact hb _ (best_step hf ⟨e1, e3⟩ e4 e5 hr)
  · have : m = 1 := by omega
    subst this
    simp [natsD]
    exact ⟨pre, rfl, by have := hb [] (best_end hf); rwa [List.append_nil] at this⟩

/-! ### reachable -/
/-- how often a place is reached: only whether -/
def Reach (S : Nat → Nat → Bool) (b : Nat) : Prop := ∃ c, WayTo S b c
theorem reach_step {S : Nat → Nat → Bool} {b : Nat} (hb : 0 < b) : Reach S b ↔ ∃ a, a < b ∧ S a b = true ∧ Reach S a := by
  constructor
  · rintro ⟨c, hc⟩
    obtain ⟨s, h1, h2, h3⟩ := (way_step hb c).mp hc
    refine ⟨s, h1, h2, ?_⟩
    by_cases hs : s = 0
    · subst hs; exact ⟨[], rfl⟩
    · rw [if_neg hs] at h3; obtain ⟨c', _, h4⟩ := h3; exact ⟨c', h4⟩
  · rintro ⟨a, h1, h2, c, hc⟩
    by_cases ha : a = 0
    · subst ha; exact ⟨[], (way_step hb []).mpr ⟨0, h1, h2, rfl⟩⟩
    · exact ⟨c ++ [a], (way_step hb _).mpr ⟨a, h1, h2, by rw [if_neg ha]; exact ⟨c, rfl, hc⟩⟩⟩
def iAt (ws : List Int) (b : Nat) : Int := (ws[b]?).getD 0
theorem iAt_at {ws : List Int} {b : Nat} (h : b < ws.length) : atI ws (b : Int) = some (iAt ws b) := by
  unfold iAt; rw [at_nat, List.getElem?_eq_getElem h]; rfl
theorem iAt_ne {ws : List Int} {a b : Nat} {x : Int} (h : a ≠ b) : iAt (ws.set a x) b = iAt ws b := by unfold iAt; rw [List.getElem?_set_ne h]
theorem iAt_self {ws : List Int} {a : Nat} {x : Int} (h : a < ws.length) : iAt (ws.set a x) a = x := by unfold iAt; rw [List.getElem?_set_self h]; rfl
/-- the places reached are those with a count above nothing -/
def Counts (S : Nat → Nat → Bool) (n : Nat) (ws : List Int) : Prop := ws.length = n + 1 ∧ ∀ b, b ≤ n → 0 ≤ iAt ws b ∧ (0 < iAt ws b ↔ Reach S b)
theorem ways_from_start_ok {S : Nat → Nat → Bool} {n : Nat} (hn : n ≤ 1000) {es : List (List Nat)} (hE : Ends S n es) :
    Rp (fun d => ∃ ws : List Int, d = .lst (ws.map .int) ∧ Counts S n ws) (F_ways_from_start [endsD es]) := by
  obtain ⟨hE1, hE2⟩ := hE
  simp [F_ways_from_start, B_ways_from_start, endsD]
  refine ⟨by omega, 0, ixN_nat (n := es.length) (k := 0) (by omega), ?_⟩
  -- processed starts below i
  refine Step.loop (fun i en => ∃ (ws : List Int) (e2 e3 e4 : Option D), en = [some (endsD es), some (.lst (ws.map .int)), e2, e3, e4] ∧ ws.length = n + 1 ∧ ∀ b, b ≤ n → 0 ≤ iAt ws b ∧ (0 < iAt ws b ↔ b = 0 ∨ ∃ a, a < i ∧ a < b ∧ S a b = true ∧ Reach S a))
    ⟨(List.replicate (n + 1) 0).set 0 1, none, none, none, ?_, by simp, fun b hb => ?_⟩ ?_ ?_
  · simp [hE1, endsD]
  · by_cases h0 : b = 0
    · subst h0; rw [iAt_self (by simp)]; simp
    · rw [iAt_ne (by omega)]
      have : iAt (List.replicate (n + 1) 0) b = 0 := by unfold iAt; rw [List.getElem?_replicate]; split <;> rfl
      rw [this]
      simp
      omega
  · rintro i d en hd ⟨ws, e2, e3, e4, rfl, h2, h3⟩
    unfold enumD at hd
    rw [List.getElem?_mapIdx] at hd
    obtain ⟨x, hx, rfl⟩ := Option.map_eq_some_iff.mp hd
    obtain ⟨E, hEa, rfl⟩ := get_map hx
    obtain ⟨hE3, hE4⟩ := hE2 i E hEa
    have hin : i < n + 1 := by have := (List.getElem?_eq_some_iff.mp hEa).1; omega
    refine ⟨_, rfl, ?_⟩
    simp [natsD]
    have hri : 0 < iAt ws i ↔ Reach S i := by
      rw [(h3 i (by omega)).2]
      constructor
      · rintro (h | ⟨a, _, h1, h2, h4⟩)
        · subst h; exact ⟨[], rfl⟩
        · exact (reach_step (by omega)).mpr ⟨a, h1, h2, h4⟩
      · intro h
        by_cases h0 : i = 0
        · exact .inl h0
        · obtain ⟨a, h1, h2, h4⟩ := (reach_step (by omega)).mp h
          exact .inr ⟨a, h1, h1, h2, h4⟩
    have hi0 := (h3 i (by omega)).1
    refine Step.loop (fun j en => ∃ (vs : List Int) (e4 : Option D), en = [some (endsD es), some (.lst (vs.map .int)), some (.int (i : Int)), some (natsD E), e4] ∧ vs.length = n + 1 ∧ iAt vs i = iAt ws i ∧ ∀ b, b ≤ n → 0 ≤ iAt vs b ∧ (0 < iAt vs b ↔ 0 < iAt ws b ∨ (b ∈ E.take j ∧ Reach S i)))
      ⟨ws, e4, rfl, h2, rfl, fun b hb => ⟨(h3 b hb).1, by simp⟩⟩ ?_ ?_
    · rintro j d en hd ⟨vs, e4, rfl, g2, g3, g4⟩
      obtain ⟨b, hb, rfl⟩ := get_map hd
      refine ⟨_, rfl, ?_⟩
      obtain ⟨b1, b2, b3⟩ := (hE4 b).mp (List.mem_of_getElem? hb)
      simp [natD]
      refine ⟨_, iAt_at (by omega), _, iAt_at (by omega), ixN vs.length b |>.getD 0, by rw [ixN_nat (by omega)]; rfl, vs.set b (iAt vs b + iAt vs i), ?_, by simp [g2], ?_, fun c hc => ?_⟩
      · rw [ixN_nat (by omega), List.map_set]; rfl
      · rw [iAt_ne (by omega)]; exact g3
      · rw [take_snoc hb]
        obtain ⟨c1, c2⟩ := g4 c hc
        by_cases hcb : c = b
        · subst hcb
          rw [iAt_self (by omega), g3]
          refine ⟨by omega, ?_⟩
          simp only [List.mem_append, List.mem_singleton, or_true, true_and]
          rw [← hri]
          constructor
          · intro h
            by_cases h' : 0 < iAt ws i
            · exact .inr h'
            · have : 0 < iAt vs c := by omega
              rcases c2.mp this with h | h
              · exact .inl h
              · exact .inr (hri.mpr h.2)
          · rintro (h | h)
            · have := c2.mpr (.inl h); omega
            · omega
        · rw [iAt_ne (by omega)]
          refine ⟨c1, c2.trans ?_⟩
          simp [hcb]
    · rintro en ⟨vs, e4, rfl, g2, g3, g4⟩
      refine ⟨vs, ⟨_, _, _, rfl⟩, g2, fun b hb => ⟨(g4 b hb).1, (g4 b hb).2.trans ?_⟩⟩
      rw [(h3 b hb).2, List.length_map, List.take_length, hE4]
      constructor
      · rintro ((h | ⟨a, h1, h2⟩) | ⟨h1, h2⟩)
        · exact .inl h
        · exact .inr ⟨a, by omega, h2⟩
        · exact .inr ⟨i, by omega, h1.1, h1.2.2, h2⟩
      · rintro (h | ⟨a, h1, h2, h4, h5⟩)
        · exact .inl (.inl h)
        · by_cases hai : a = i
          · subst hai; exact .inr ⟨⟨h2, hb, h4⟩, h5⟩
          · exact .inl (.inr ⟨a, by omega, h2, h4, h5⟩)
  · rintro en ⟨ws, e2, e3, e4, rfl, h2, h3⟩
    simp
    refine ⟨ws, rfl, h2, fun b hb => ⟨(h3 b hb).1, (h3 b hb).2.trans ?_⟩⟩
    have hl : (enumD (es.map natsD)).length = n + 1 := by simp [enumD, hE1]
    rw [hl]
    by_cases h0 : b = 0
    · subst h0; simp; exact ⟨[], rfl⟩
    · rw [reach_step (by omega)]
      constructor
      · rintro (h | ⟨a, _, h1⟩)
        · exact absurd h h0
        · exact ⟨a, h1⟩
      · rintro ⟨a, h1, h2⟩
        exact .inr ⟨a, by omega, h1, h2⟩
/-- the places that are reached, in order -/
noncomputable def placesT (S : Nat → Nat → Bool) (n : Nat) : D := open Classical in .tup (((List.range (n + 1)).filter fun b => decide (Reach S b)).map natD)
theorem reachable_places_ok {S : Nat → Nat → Bool} {n : Nat} (hn : n ≤ 1000) {es : List (List Nat)} (hE : Ends S n es) :
    Rp (fun d => d = placesT S n) (F_reachable_places [endsD es]) := by
  obtain ⟨d, e, ws, rfl, hw⟩ := (ways_from_start_ok hn hE).get
  simp [F_reachable_places, B_reachable_places, e]
  have hw1 := hw.1
  have hw2 := hw.2
  simp [endsD, hE.1, small_int (j := (n : Int) + 1) (by omega)]
  refine Rp.lc (fun d => match d with | .int k => decide (0 < iAt ws k.toNat) | _ => false) id (fun d hd => ?_) (by rw [rangeD_length]; omega) ?_
  · obtain ⟨i, rfl, i1, i2⟩ := rangeD_mem hd
    obtain ⟨j, rfl⟩ : ∃ j : Nat, i = j := ⟨i.toNat, by omega⟩
    refine ⟨_, rfl, ?_, fun _ => ?_⟩
    · simp
      exact ⟨_, iAt_at (by omega), Iff.rfl⟩
    · simp
  · simp only [wp_kLst, wp_kA, ev_aNil, Rp_ok, wp_kA2, wp_kU, ev_tupL]
    unfold placesT
    classical
    have : rangeD 0 ((n : Int) + 1) = (List.range (n + 1)).map natD := by
      rw [show ((n : Int) + 1) = ((n + 1 : Nat) : Int) from by omega, rangeD_nat]; rfl
    rw [this, List.map_id, List.filter_map]
    congr 2
    refine List.filter_congr fun b hb => ?_
    rw [List.mem_range] at hb
    simp only [Function.comp, natD, Int.toNat_natCast]
    exact decide_eq_decide.mpr (hw2 b (by omega)).2

/-! ### cuts_answer -/
/-- the answer: the least of the fewest cuts, or the wall -/
def CutsAns (S : Nat → Nat → Bool) (n : Nat) (d : D) : Prop :=
  (∃ c, Best S n 0 c ∧ d = .tup [.str (Str.ofString "cuts"), cutsT c]) ∨ (¬ Reach S n ∧ d = .tup [.str (Str.ofString "wall"), placesT S n])
theorem cuts_answer_ok (cs : List (Nat × Str)) (lks : List (Nat × List D)) (n : Nat) (hn : n ≤ 1000) (hn0 : 0 < n) (hl : ∀ lk ∈ lks, LookOk n lk) :
    Rp (CutsAns (soundS cs lks) n) (F_cuts_answer [.int (n : Int), logD cs, looksD lks]) := by
  obtain ⟨d1, e1, es, rfl, hE⟩ := (sound_ends_ok cs lks n hn hl).get
  obtain ⟨d2, e2, fs, rfl, hF⟩ := (fewest_stretches_ok hn hE).get
  have h0 : Few (soundS cs lks) n 0 (fAt fs 0) := hF.2 0 _ (by have := hF.1; unfold fAt; rw [List.getElem?_eq_getElem (by omega)]; rfl)
  have h0a : atI fs 0 = some (fAt fs 0) := fs_at (b := 0) (by have := hF.1; omega)
  simp [F_cuts_answer, B_cuts_answer, e1, e2]
  refine ⟨_, h0a, ?_⟩
  cases q : fAt fs 0 with
  | none =>
    rw [q] at h0
    obtain ⟨d3, e3, rfl⟩ := (reachable_places_ok hn hE).get
    simp [fD, e3]
    refine .inr ⟨?_, rfl⟩
    rintro ⟨c, hc⟩
    unfold WayTo at hc
    rw [if_neg (by omega)] at hc
    exact h0 (c.length + 1) (hop_path.mpr ⟨c, rfl, hc⟩)
  | some k =>
    rw [q] at h0
    obtain ⟨d3, e3, c, rfl, hc⟩ := (fewest_cuts_ok hn hn0 hE hF h0).get
    simp [fD, e3]
    exact .inl ⟨c, hc, rfl⟩
open PySem.W in
/-- the least by number and then by order is the best -/
theorem best_unique {S : Nat → Nat → Bool} {n p : Nat} {c c' : List Nat} (h : Best S n p c) (h' : Best S n p c') : c = c' := by
  have l1 := h.2.1 c' h'.1
  have l2 := h'.2.1 c h.1
  have h1 := h.2.2 c' h'.1 (by omega)
  have h2 := h'.2.2 c h.1 (by omega)
  have := listLt_total h1 h2
  have inj : ∀ a b : List Nat, a.map (fun (x : Nat) => (x : Int)) = b.map (fun (x : Nat) => (x : Int)) → a = b := by
    intro a
    induction a with
    | nil => intro b hb; cases b with | nil => rfl | cons => simp at hb
    | cons x a ih => intro b hb; cases b with
      | nil => simp at hb
      | cons y b => simp at hb; rw [ih b (by simpa using hb.2)]; congr 1; omega
  exact (inj _ _ this).symm
open PySem.W in
theorem min_best {S : Nat → Nat → Bool} {n : Nat} (hn : 0 < n) {w : List (List Nat)} (hw : ∀ c, c ∈ w ↔ WayTo S n c) (hne : w ≠ []) :
    ∃ c, Best S n 0 c ∧ dMinL [.lst (w.map fun c => .tup [.int (c.length : Int), cutsT c])] = .ok (.tup [.int (c.length : Int), cutsT c]) := by
  let em : Int × Tup Int → D := fun x => .tup [.int x.1, .tup (x.2.items.map .int)]
  have he : ∀ a, toPy (em a) = some (Datum.toD a) := by
    rintro ⟨i, ⟨l⟩⟩
    have hl : toPyAll (l.map D.int) = some (l.map Datum.toD) := pyAll_map (em := D.int) (fun _ => rfl) l
    have h2 : toPy (.tup (l.map D.int)) = some (.tuple (l.map Datum.toD)) := by rw [toPy, hl]; rfl
    show toPy (.tup [.int i, .tup (l.map .int)]) = _
    rw [toPy, toPyAll, toPyAll, h2]; rfl
  let tr : List Nat → Int × Tup Int := fun c => ((c.length : Int), ⟨c.map fun (x : Nat) => (x : Int)⟩)
  have hmap : w.map (fun c => D.tup [.int (c.length : Int), cutsT c]) = (w.map tr).map em := by
    rw [List.map_map]
    refine List.map_congr_left fun c _ => ?_
    simp [em, tr, cutsT, natD]
  obtain ⟨m, h1, h2, h3⟩ := minL_ok (em := em) he (by decide) (l := w.map tr) (by simpa using hne)
  obtain ⟨c, hc, rfl⟩ := List.mem_map.mp h1
  have hp : ∀ c, c ∈ w ↔ Path S 0 c n := fun c => by rw [hw]; unfold WayTo; rw [if_neg (by omega)]
  have hlt : ∀ c', Path S 0 c' n → (if (c'.length : Int) = (c.length : Int) then listLt (c'.map fun (x : Nat) => (x : Int)) (c.map fun (x : Nat) => (x : Int)) else decide ((c'.length : Int) < (c.length : Int))) = false := fun c' hc' =>
    h2 (tr c') (List.mem_map.mpr ⟨c', (hp c').mpr hc', rfl⟩)
  refine ⟨c, ⟨(hp c).mp hc, fun c' hc' => ?_, fun c' hc' hl => ?_⟩, ?_⟩
  · have := hlt c' hc'
    split at this
    · omega
    · simp at this; omega
  · have := hlt c' hc'
    rw [if_pos (by omega)] at this
    exact this
  · rw [hmap, h3]
    simp [em, tr, cutsT, natD]

/-! ### law_reach -/
def doorD (d : Int × Int) : D := .tup [.int d.1, .int d.2]
def doorsD (ds : List (Int × Int)) : D := .lst (ds.map doorD)
/-- what hangs together with s inside ins -/
inductive Conn (ds : List (Int × Int)) (ins : List Int) (s : Int) : Int → Prop
  | base : s ∈ ins → Conn ds ins s s
  | step {x y : Int} : Conn ds ins s x → ((x, y) ∈ ds ∨ (y, x) ∈ ds) → y ∈ ins → Conn ds ins s y
theorem Conn.mem {ds : List (Int × Int)} {ins : List Int} {s x : Int} (h : Conn ds ins s x) : x ∈ ins := by
  cases h with
  | base h => exact h
  | step _ _ h => exact h
theorem Conn.start {ds : List (Int × Int)} {ins : List Int} {s x : Int} (h : Conn ds ins s x) : s ∈ ins := by
  induction h with
  | base h => exact h
  | step _ _ _ ih => exact ih
theorem nodup_le {α : Type} : ∀ {l m : List α}, l.Nodup → (∀ x ∈ l, x ∈ m) → l.length ≤ m.length
  | [], m, _, _ => Nat.zero_le _
  | x :: l, m, hn, hs => by
    rw [List.nodup_cons] at hn
    obtain ⟨a, b, rfl⟩ := List.append_of_mem (hs x List.mem_cons_self)
    have := nodup_le (l := l) (m := a ++ b) hn.2 fun y hy => by
      have := hs y (List.mem_cons_of_mem _ hy)
      rw [List.mem_append, List.mem_cons] at this
      rw [List.mem_append]
      rcases this with h | h | h
      · exact .inl h
      · subst h; exact absurd hy hn.1
      · exact .inr h
    simp at this ⊢; omega
/-- one more, where it is due -/
def more (ins f : List Int) (a b : Int) : List Int := if a ∈ f ∧ b ∈ ins ∧ b ∉ f then f ++ [b] else f
theorem more_ok {ds : List (Int × Int)} {ins f : List Int} {s a b : Int} (hn : f.Nodup) (hc : ∀ x ∈ f, Conn ds ins s x) (hd : (a, b) ∈ ds ∨ (b, a) ∈ ds) :
    (more ins f a b).Nodup ∧ (∀ x ∈ more ins f a b, Conn ds ins s x) ∧ (∃ e, more ins f a b = f ++ e) ∧ (more ins f a b = f → a ∈ f → b ∈ ins → b ∈ f) := by
  unfold more
  split
  · rename_i h
    refine ⟨?_, ?_, ⟨_, rfl⟩, fun h' => by simp at h'⟩
    · rw [List.nodup_append]
      exact ⟨hn, by simp, fun x hx y hy => by simp at hy; subst hy; rintro rfl; exact h.2.2 hx⟩
    · intro x hx
      rcases List.mem_append.mp hx with hx | hx
      · exact hc x hx
      · simp at hx; subst hx; exact .step (hc a h.1) hd h.2.1
  · rename_i h
    exact ⟨hn, hc, ⟨[], by simp⟩, fun _ ha hb => by
      by_cases hf : b ∈ f
      · exact hf
      · exact absurd ⟨ha, hb, hf⟩ h⟩
abbrev reachIn : SF := (sSeq (sIf (cAnd (cBl (eB2 dIn (eVar 6) (eVar 3))) (cAnd (cBl (eB2 dIn (eVar 7) (eVar 2))) (cBl (eB2 dNotIn (eVar 7) (eVar 3))))) (sApp 3 (eVar 7)) sNx) (sIf (cAnd (cBl (eB2 dIn (eVar 7) (eVar 3))) (cAnd (cBl (eB2 dIn (eVar 6) (eVar 2))) (cBl (eB2 dNotIn (eVar 6) (eVar 3))))) (sApp 3 (eVar 6)) sNx))
theorem reach_if1 {N : En → Prop} {Rt : D → Prop} {Bk Ct : En → Prop} {x0 x1 x4 x5 : Option D} {ins f : List Int} {a b : Int} (hl : f.length < 16777216)
    (h : N [x0, x1, some (.lst (ins.map .int)), some (.lst ((more ins f a b).map .int)), x4, x5, some (.int a), some (.int b)]) :
    Step N Rt Bk Ct (sIf (cAnd (cBl (eB2 dIn (eVar 6) (eVar 3))) (cAnd (cBl (eB2 dIn (eVar 7) (eVar 2))) (cBl (eB2 dNotIn (eVar 7) (eVar 3))))) (sApp 3 (eVar 7)) sNx [x0, x1, some (.lst (ins.map .int)), some (.lst (f.map .int)), x4, x5, some (.int a), some (.int b)]) := by
  unfold more at h
  by_cases h1 : a ∈ f <;> by_cases h2 : b ∈ ins <;> by_cases h3 : b ∈ f <;> simp [h1, h2, h3] at h ⊢ <;> first | exact h | exact ⟨hl, h⟩
theorem reach_if2 {N : En → Prop} {Rt : D → Prop} {Bk Ct : En → Prop} {x0 x1 x4 x5 : Option D} {ins f : List Int} {a b : Int} (hl : f.length < 16777216)
    (h : N [x0, x1, some (.lst (ins.map .int)), some (.lst ((more ins f b a).map .int)), x4, x5, some (.int a), some (.int b)]) :
    Step N Rt Bk Ct (sIf (cAnd (cBl (eB2 dIn (eVar 7) (eVar 3))) (cAnd (cBl (eB2 dIn (eVar 6) (eVar 2))) (cBl (eB2 dNotIn (eVar 6) (eVar 3))))) (sApp 3 (eVar 6)) sNx [x0, x1, some (.lst (ins.map .int)), some (.lst (f.map .int)), x4, x5, some (.int a), some (.int b)]) := by
  unfold more at h
  by_cases h1 : b ∈ f <;> by_cases h2 : a ∈ ins <;> by_cases h3 : a ∈ f <;> simp [h1, h2, h3] at h ⊢ <;> first | exact h | exact ⟨hl, h⟩
/-- the rooms that hang together with the start, ascending -/
def Part (ds : List (Int × Int)) (ins : List Int) (s : Int) (l : List Int) : Prop := l.Nodup ∧ l.Pairwise (· ≤ ·) ∧ ∀ x, x ∈ l ↔ Conn ds ins s x
theorem law_reach_ok (ds : List (Int × Int)) (ins : List Int) (s : Int) (hi : ins.length ≤ 1000) :
    Rp (fun d => ∃ l, d = .lst (l.map .int) ∧ Part ds ins s l) (F_law_reach [doorsD ds, .int s, .lst (ins.map .int)]) := by
  simp [F_law_reach, B_law_reach]
  have key : ∀ (f0 : List Int), f0.Nodup → (∀ x ∈ f0, Conn ds ins s x) → (s ∈ ins → s ∈ f0) → (s ∉ ins → f0 = []) →
      Step (kThen (fun x => ∃ l : List Int, D.non = .lst (l.map .int) ∧ Part ds ins s l) (fun d => ∃ l : List Int, d = .lst (l.map .int) ∧ Part ds ins s l) (fun _ => False) (fun _ => False)
        (sSeq (sFor (iRange1 (eCall dLen (aCons (eVar 2) aNil))) (tgName 4) (sSeq (sSet 5 (eBorrow (eCall dLen (aCons (eVar 3) aNil)))) (sSeq (sFor (iSeq (eVar 0)) (tgTup (tgCons (tgName 6) (tgCons (tgName 7) tgNil))) reachIn) (sIf (cBl (eB2 dEq (eBorrow (eCall dLen (aCons (eVar 3) aNil))) (eVar 5))) sBrk sNx)))) (sRet (eCall dSorted (aCons (eVar 3) aNil)))))
        (fun d => ∃ l : List Int, d = .lst (l.map .int) ∧ Part ds ins s l) (fun _ => False) (fun _ => False)
        (.nx [some (doorsD ds), some (.int s), some (.lst (ins.map .int)), some (.lst (f0.map .int)), none, none, none, none]) := by
    intro f0 hn0 hc0 hs0 hs1
    have len : ∀ f : List Int, f.Nodup → (∀ x ∈ f, Conn ds ins s x) → f.length ≤ ins.length := fun f hn hc => nodup_le hn fun x hx => (hc x hx).mem
    -- at the end
    have fin : ∀ (f : List Int), f.Nodup → (∀ x ∈ f, Conn ds ins s x) → (s ∈ ins → s ∈ f) → (∀ d ∈ ds, (d.1 ∈ f → d.2 ∈ ins → d.2 ∈ f) ∧ (d.2 ∈ f → d.1 ∈ ins → d.1 ∈ f)) →
        Rp (fun d => ∃ l : List Int, d = .lst (l.map .int) ∧ Part ds ins s l) (dSorted [.lst (f.map .int)]) := by
      intro f hn hc hs hcl
      obtain ⟨l', h1, h2, h3⟩ := sorted_ints f (by have := len f hn hc; omega)
      simp [h1]
      refine ⟨l', rfl, h2.nodup_iff.mpr hn, h3, fun x => ⟨fun h => hc x (h2.mem_iff.mp h), fun h => h2.mem_iff.mpr ?_⟩⟩
      induction h with
      | base h => exact hs h
      | step h1 h2 h3 ih =>
        rcases h2 with h2 | h2
        · exact (hcl _ h2).1 ih h3
        · exact (hcl _ h2).2 ih h3
    simp [show ins.length < 2 ^ 62 from by omega]
    refine Step.loop (fun i en => ∃ (f : List Int) (e4 e5 e6 e7 : Option D), en = [some (doorsD ds), some (.int s), some (.lst (ins.map .int)), some (.lst (f.map .int)), e4, e5, e6, e7] ∧ f.Nodup ∧ (∀ x ∈ f, Conn ds ins s x) ∧ (s ∈ ins → s ∈ f) ∧ (s ∉ ins → f = []) ∧ (s ∈ ins → i + 1 ≤ f.length))
      ⟨f0, _, _, _, _, rfl, hn0, hc0, hs0, hs1, fun h => by have := List.length_pos_of_mem (hs0 h); omega⟩ ?_ ?_
    · rintro i d en hd ⟨f, e4, e5, e6, e7, rfl, hn, hc, hs, hs', hlen⟩
      refine ⟨_, rfl, ?_⟩
      simp [doorsD]
      refine Step.loop (fun j en => ∃ (g ext : List Int) (e6 e7 : Option D), en = [some (doorsD ds), some (.int s), some (.lst (ins.map .int)), some (.lst (g.map .int)), some d, some (.int (f.length : Int)), e6, e7] ∧ g = f ++ ext ∧ g.Nodup ∧ (∀ x ∈ g, Conn ds ins s x) ∧
          (ext = [] → ∀ d ∈ ds.take j, (d.1 ∈ f → d.2 ∈ ins → d.2 ∈ f) ∧ (d.2 ∈ f → d.1 ∈ ins → d.1 ∈ f)))
        ⟨f, [], e6, e7, rfl, by simp, hn, hc, fun _ d hd => by simp at hd⟩ ?_ ?_
      · rintro j x en hx ⟨g, ext, e6, e7, rfl, rfl, gn, gc, gcl⟩
        obtain ⟨⟨a, b⟩, hab, rfl⟩ := get_map hx
        refine ⟨_, rfl, ?_⟩
        have hmem : (a, b) ∈ ds := List.mem_of_getElem? hab
        obtain ⟨m1, m2, ⟨x1, m3⟩, m4⟩ := more_ok (ins := ins) (s := s) gn gc (.inl hmem)
        obtain ⟨p1, p2, ⟨x2, p3⟩, p4⟩ := more_ok (ins := ins) (s := s) (a := b) (b := a) m1 m2 (.inr hmem)
        simp only [wp_seq, doorD]
        refine reach_if1 (by have := len _ gn gc; omega) ?_
        simp only [wp_kThen]
        refine reach_if2 (by have := len _ m1 m2; omega) ?_
        refine ⟨_, ext ++ x1 ++ x2, _, _, rfl, by rw [p3, m3]; simp, p1, p2, fun hx => ?_⟩
        have h1 : ext = [] := by cases ext <;> simp at hx; rfl
        have h2 : x1 = [] := by subst h1; cases x1 <;> simp at hx; rfl
        have h3 : x2 = [] := by subst h1; subst h2; cases x2 <;> simp at hx; rfl
        subst h1; subst h2; subst h3
        simp only [List.append_nil] at m3 m4 p3 p4
        rw [m3] at p3 p4
        intro d hd
        rw [take_snoc hab, List.mem_append] at hd
        rcases hd with hd | hd
        · exact gcl rfl d hd
        · simp at hd
          subst hd
          exact ⟨m4 m3, p4 p3⟩
      · rintro en ⟨g, ext, e6, e7, rfl, rfl, gn, gc, gcl⟩
        simp
        by_cases hx : ext = []
        · subst hx
          simp at gn gc ⊢
          refine fin f gn gc hs ?_
          have := gcl rfl
          rw [List.length_map, List.take_length] at this
          exact this
        · have hpos : 0 < ext.length := List.length_pos_iff.mpr hx
          rw [if_neg (by omega)]
          refine ⟨f ++ ext, by simp [doorsD], gn, gc, fun h => List.mem_append_left _ (hs h), fun h => ?_, fun h => ?_⟩
          · obtain ⟨x, hx⟩ := List.exists_mem_of_length_pos (l := f ++ ext) (by simp; omega)
            exact absurd (gc x hx).start h
          · have := hlen h; simp; omega
    · rintro en ⟨f, e4, e5, e6, e7, rfl, hn, hc, hs, hs', hlen⟩
      simp
      refine fin f hn hc hs ?_
      have hl : (rangeD 0 (ins.length : Int)).length = ins.length := by rw [rangeD_length]; omega
      rw [hl] at hlen
      by_cases h : s ∈ ins
      · have := hlen h
        have := len f hn hc
        omega
      · rw [hs' h]
        intro d _
        simp
  by_cases h : s ∈ ins
  · simp [h]
    have := key [s] (by simp) (by simp; exact .base h) (fun _ => by simp) (fun h' => absurd h h')
    simpa using this
  · simp [h]
    have := key [] (by simp) (by simp) (fun h' => absurd h' h) (fun _ => rfl)
    simpa using this

/-! ### law_hear -/
def eAt (ws : List D) (r : Nat) : D := (ws[r]?).getD .non
theorem eAt_at {ws : List D} {r : Nat} (h : r < ws.length) : atI ws (r : Int) = some (eAt ws r) := by
  unfold eAt; rw [at_nat, List.getElem?_eq_getElem h]; rfl
theorem eAt_ne {ws : List D} {a b : Nat} {x : D} (h : a ≠ b) : eAt (ws.set a x) b = eAt ws b := by unfold eAt; rw [List.getElem?_set_ne h]
theorem eAt_self {ws : List D} {a : Nat} {x : D} (h : a < ws.length) : eAt (ws.set a x) a = x := by unfold eAt; rw [List.getElem?_set_self h]; rfl
open Classical in
/-- what the room r has heard -/
noncomputable def heardW (ds : List (Int × Int)) (n : Nat) (r : Nat) (cs : List (Nat × Str)) : D := lastW (fun c => decide (Conn ds (rangeI 0 (n : Int)) (c : Int) (r : Int))) cs
open Classical in
theorem law_hear_ok (ds : List (Int × Int)) (n : Nat) (cs : List (Nat × Str)) (hn : n ≤ 1000) :
    Rp (fun d => ∃ ws : List D, d = .lst ws ∧ ws.length = n ∧ ∀ r, r < n → eAt ws r = heardW ds n r cs) (F_law_hear [.int (n : Int), logD cs, doorsD ds]) := by
  simp [F_law_hear, B_law_hear, show n < 2 ^ 62 from by omega]
  refine Rp.lc (fun _ => true) (fun _ => .non) (fun d hd => ⟨_, rfl, .ok rfl, fun _ => by simp⟩) (by rw [rangeD_length]; omega) ?_
  rw [List.filter_eq_self.mpr fun _ _ => rfl]
  simp [logD]
  refine Step.loop (fun i en => ∃ (ws : List D) (e4 e5 : Option D), en = [some (.int (n : Int)), some (logD cs), some (doorsD ds), some (.lst ws), e4, e5] ∧ ws.length = n ∧ ∀ r, r < n → eAt ws r = heardW ds n r (cs.take i))
    ⟨(rangeD 0 (n : Int)).map fun _ => .non, none, none, rfl, by simp [rangeD_length], fun r hr => ?_⟩ ?_ ?_
  · unfold eAt
    rw [List.getElem?_map, List.getElem?_eq_getElem (by rw [rangeD_length]; omega)]
    rfl
  · rintro i d en hd ⟨ws, e4, e5, rfl, h2, h3⟩
    obtain ⟨c, hc, rfl⟩ := get_map hd
    refine ⟨_, rfl, ?_⟩
    obtain ⟨d1, e1, l, rfl, hl1, hl2, hl3⟩ := (law_reach_ok ds (rangeI 0 (n : Int)) (c.1 : Int) (by rw [rangeI_length]; omega)).get
    simp [callD, wp_rg1 (j := (n : Int)) (by omega), rangeD_eq, e1]
    refine Step.loop (fun j en => ∃ (vs : List D) (e5 : Option D), en = [some (.int (n : Int)), some (logD cs), some (doorsD ds), some (.lst vs), some (callD c), e5] ∧ vs.length = n ∧ ∀ r : Nat, r < n → eAt vs r = if (r : Int) ∈ l.take j then .str c.2 else eAt ws r)
      ⟨ws, e5, rfl, h2, fun r hr => by simp⟩ ?_ ?_
    · rintro j d en hd ⟨vs, e5, rfl, g2, g3⟩
      obtain ⟨x, hx, rfl⟩ := get_map hd
      have hxm : x ∈ rangeI 0 (n : Int) := ((hl3 x).mp (List.mem_of_getElem? hx)).mem
      rw [mem_rangeI] at hxm
      obtain ⟨r, rfl⟩ : ∃ r : Nat, x = r := ⟨x.toNat, by omega⟩
      refine ⟨_, rfl, ?_⟩
      simp [callD]
      refine ⟨r, ixN_nat (by omega), g2, fun q hq => ?_⟩
      rw [take_snoc hx]
      by_cases hqr : r = q
      · subst hqr
        rw [eAt_self (by omega)]
        simp
      · rw [eAt_ne hqr, g3 q hq]
        have : ¬ (q : Int) = (r : Int) := by omega
        simp [this]
    · rintro en ⟨vs, e5, rfl, g2, g3⟩
      refine ⟨vs, ⟨_, _, rfl⟩, g2, fun r hr => ?_⟩
      rw [g3 r hr, h3 r hr, take_snoc hc]
      unfold heardW
      rw [lastW_snoc, List.length_map, List.take_length]
      by_cases hm : (r : Int) ∈ l
      · have := (hl3 r).mp hm
        simp [hm, this]
      · have : ¬ Conn ds (rangeI 0 (n : Int)) (c.1 : Int) (r : Int) := fun h => hm ((hl3 r).mpr h)
        simp [hm, this]
  · rintro en ⟨ws, e4, e5, rfl, h2, h3⟩
    simp
    refine ⟨h2, fun r hr => ?_⟩
    rw [h3 r hr, List.length_map, List.take_length]
theorem heardW_q (ds : List (Int × Int)) (n r : Nat) (cs : List (Nat × Str)) : EntryQ (heardW ds n r cs) := lastW_q _ _

/-! ### law_partial_look -/
theorem partial_look_ok (l : List Int) (n : Nat) (cs : List (Nat × Str)) (ds : List (Int × Int)) (ws : List Str) (hl : n + 2 ≤ l.length) (hn : n ≤ 1000) (hn0 : 0 < n) (hws : ∀ w ∈ ws, WordOk w) (hpos : 0 < l.length) :
    Rp (fun d => ∃ lk, d = lookD lk ∧ LookOk n lk ∧ lk.1 ≤ cs.length) (F_law_partial_look [.lst (l.map .int), .int (n : Int), logD cs, doorsD ds, .lst (ws.map .str)]) := by
  obtain ⟨k, hk⟩ : ∃ k : Nat, l[0] % ((cs.length : Int) + 1) = k := ⟨(l[0] % ((cs.length : Int) + 1)).toNat, by have := Int.emod_nonneg l[0] (show (cs.length : Int) + 1 ≠ 0 by omega); omega⟩
  have hk2 : k ≤ cs.length := by have := Int.emod_lt_of_pos l[0] (show 0 < (cs.length : Int) + 1 by omega); omega
  obtain ⟨d1, e1, hs, rfl, hh1, hh2⟩ := (law_hear_ok ds n (cs.take k) hn).get
  have hhq : ∀ r, r < n → EntryQ (eAt hs r) := fun r hr => by rw [hh2 r hr]; exact heardW_q _ _ _ _
  have e1' : F_law_hear [.int (n : Int), .lst ((cs.map callD).take k), doorsD ds] = .ok (.lst hs) := by rw [← List.map_take]; exact e1
  have hat0 : atI l 0 = some l[0] := at_some (i := 0) (by omega) (by omega)
  have hat1 : atI l 1 = some l[1] := at_some (i := 1) (by omega) (by omega)
  simp [F_law_partial_look, B_law_partial_look, logD]
  refine ⟨_, hat0, ?_⟩
  rw [hk]
  simp [cutD_to, e1']
  refine ⟨_, hat1, ?_⟩
  simp [show n < 2 ^ 62 from by omega]
  refine Step.loop (fun i en => ∃ (es : List D) (e9 e10 e11 : Option D), en = [some (.lst (l.map .int)), some (.int (n : Int)), some (logD cs), some (doorsD ds), some (.lst (ws.map .str)), some (.int (k : Int)), some (.lst hs), some (.int (l[1] % 4)), some (.lst es), e9, e10, e11] ∧ es.length = i ∧ ∀ e ∈ es, EntryQ e)
    ⟨[], _, _, _, rfl, rfl, by simp⟩ ?_ ?_
  · rintro i d en hd ⟨es, e9, e10, e11, rfl, h2, h3⟩
    obtain ⟨rfl, hi⟩ := range_get hd
    refine ⟨_, rfl, ?_⟩
    have hati : atI l (2 + (i : Int)) = some (l[(2 + (i : Int)).toNat]'(by omega)) := at_some (by omega) (by omega)
    generalize hx : l[(2 + (i : Int)).toNat]'(by omega) = x at hati
    simp only [wp_seq, wp_set, wp_call, wp_aCons, wp_B2, ev_var0, ev_varS, List.set_cons_succ, List.set_cons_zero, Rp_ok, wp_kB2, wp_kOp, ev_C, ev_add, wp_ixLm, wp_kA, ev_aNil, wp_kA2, wp_kU, ev_int, wp_kSet]
    refine ⟨x, hati, ?_⟩
    simp only [wp_seq, wp_set, wp_call, wp_aCons, wp_B2, ev_var0, ev_varS, List.set_cons_succ, List.set_cons_zero, Rp_ok, wp_kB2, wp_kOp, ev_C, ev_add, wp_ixL, wp_kA, ev_aNil, wp_kA2, wp_kU, ev_int, wp_kSet, wp_kThen]
    refine ⟨_, eAt_at (by omega), ?_⟩
    have heh := hhq i hi
    refine wp_if_set EntryQ ?_ ?_ ?_ heh fun e he => ?_
    · rfl
    · simp
    · simp
      exact (pick_ok ws _ hws).imp fun d h => h.q
    simp only [wp_kThen, wp_seq]
    refine wp_if_set EntryQ ?_ ?_ ?_ he fun e he => ?_
    · rfl
    · simp
    · simp
      exact (pick_ok ws _ hws).imp fun d h => h.q
    simp only [wp_kThen, wp_seq]
    refine wp_if_set EntryQ ?_ ?_ ?_ he fun e he => ?_
    · rfl
    · simp
    · simp
      exact q_mark
    simp
    refine ⟨by omega, h2, fun y hy => ?_⟩
    rcases hy with hy | hy
    · exact h3 y hy
    · subst hy; exact he
  · rintro en ⟨es, e9, e10, e11, rfl, h2, h3⟩
    have hlen : (rangeD 0 (n : Int)).length = n := by rw [rangeD_length]; omega
    rw [hlen] at h2
    simp
    exact ⟨k, es, rfl, ⟨h2, h3⟩, hk2⟩

/-! ### law_seen_so -/
/-- the doors of a corridor that no cut shuts -/
def corr (n : Nat) (c : List Nat) : List (Int × Int) := ((rangeI 1 (n : Int)).filter fun p => !decide (p ∈ c.map fun (x : Nat) => (x : Int))).map fun p => (p - 1, p)
theorem mem_corr {n : Nat} {c : List Nat} {x y : Int} : (x, y) ∈ corr n c ↔ x = y - 1 ∧ 1 ≤ y ∧ y < n ∧ y ∉ c.map fun (x : Nat) => (x : Int) := by
  unfold corr
  rw [List.mem_map]
  constructor
  · rintro ⟨p, hp, e⟩
    rw [List.mem_filter, mem_rangeI] at hp
    cases e
    exact ⟨rfl, hp.1.1, hp.1.2, by simpa using hp.2⟩
  · rintro ⟨h1, h2, h3, h4⟩
    exact ⟨y, by rw [List.mem_filter, mem_rangeI]; exact ⟨⟨h2, h3⟩, by simpa using h4⟩, by rw [h1]⟩
/-- a stretch between neighbouring cuts -/
def Between (n : Nat) (c : List Nat) (s e : Nat) : Prop := (s = 0 ∨ s ∈ c) ∧ (e = n ∨ e ∈ c) ∧ e ≤ n ∧ ∀ p ∈ c, ¬ (s < p ∧ p < e)
theorem conn_corr {n : Nat} {c : List Nat} {s e x y : Nat} (h : Between n c s e) (hy : s ≤ y ∧ y < e) (hx : x < n) : Conn (corr n c) (rangeI 0 (n : Int)) (x : Int) (y : Int) ↔ s ≤ x ∧ x < e := by
  obtain ⟨h1, h2, h3, h4⟩ := h
  have cm : ∀ p : Nat, ((p : Int) ∈ c.map fun (x : Nat) => (x : Int)) ↔ p ∈ c := fun p => by
    rw [List.mem_map]
    constructor
    · rintro ⟨q, hq, e⟩
      have : q = p := by omega
      exact this ▸ hq
    · exact fun hp => ⟨p, hp, rfl⟩
  constructor
  · intro hc
    -- the stretch is left by no door
    have inv : ∀ z : Int, Conn (corr n c) (rangeI 0 (n : Int)) (x : Int) z → (((s : Int) ≤ x ∧ (x : Int) < e) ↔ ((s : Int) ≤ z ∧ z < e)) := by
      intro z hz
      induction hz with
      | base _ => exact Iff.rfl
      | @step u v h5 h6 h7 ih =>
        refine ih.trans ?_
        have hu := h5.mem
        rw [mem_rangeI] at hu h7
        -- the door (p - 1, p)
        have cross : ∀ p : Int, 1 ≤ p → p < n → p ∉ (c.map fun (x : Nat) => (x : Int)) → (((s : Int) ≤ p - 1 ∧ p - 1 < e) ↔ ((s : Int) ≤ p ∧ p < e)) := by
          intro p p1 p2 p3
          have ps : p ≠ s := by
            rintro rfl
            rcases h1 with h1 | h1
            · omega
            · exact p3 ((cm s).mpr h1)
          have pe : p ≠ e := by
            rintro rfl
            rcases h2 with h2 | h2
            · omega
            · exact p3 ((cm e).mpr h2)
          omega
        rcases h6 with h6 | h6
        · obtain ⟨q1, q2, q3, q4⟩ := mem_corr.mp h6
          rw [q1]; exact cross v q2 q3 q4
        · obtain ⟨q1, q2, q3, q4⟩ := mem_corr.mp h6
          rw [q1]; exact (cross u q2 q3 q4).symm
    have := (inv _ hc).mpr (by omega)
    omega
  · intro hx2
    have hin : ∀ z : Nat, z < n → (z : Int) ∈ rangeI 0 (n : Int) := fun z hz => by rw [mem_rangeI]; omega
    have door : ∀ p : Nat, s < p → p < e → ((p : Int) - 1, (p : Int)) ∈ corr n c := fun p p1 p2 => mem_corr.mpr ⟨rfl, by omega, by omega, fun hp => h4 p ((cm p).mp hp) ⟨p1, p2⟩⟩
    -- to the right, to the left
    have right : ∀ k : Nat, x + k < e → Conn (corr n c) (rangeI 0 (n : Int)) (x : Int) ((x + k : Nat) : Int) := by
      intro k
      induction k with
      | zero => intro _; exact .base (hin x hx)
      | succ k ih =>
        intro hk
        have := door (x + (k + 1)) (by omega) hk
        exact .step (ih (by omega)) (.inl (by rw [show ((x + k : Nat) : Int) = ((x + (k + 1) : Nat) : Int) - 1 from by omega]; exact this)) (hin _ (by omega))
    have left : ∀ k : Nat, ∀ z : Nat, z + k = x → s ≤ z → Conn (corr n c) (rangeI 0 (n : Int)) (x : Int) (z : Int) := by
      intro k
      induction k with
      | zero => intro z hz _; have : z = x := by omega
                subst this; exact .base (hin z hx)
      | succ k ih =>
        intro z hz hs
        have := door (z + 1) (by omega) (by omega)
        exact .step (ih (z + 1) (by omega) (by omega)) (.inr (by rw [show (z : Int) = ((z + 1 : Nat) : Int) - 1 from by omega]; exact this)) (hin _ (by omega))
    by_cases hxy : x ≤ y
    · have := right (y - x) (by omega)
      rwa [show x + (y - x) = y from by omega] at this
    · exact left (x - y) y (by omega) hy.1
theorem path_between {S : Nat → Nat → Bool} {n r : Nat} : ∀ {a : Nat} {c : List Nat}, Path S a c n → a ≤ r → r < n → ∃ s e, s ≤ r ∧ r < e ∧ S s e = true ∧ (s = a ∨ s ∈ c) ∧ (e = n ∨ e ∈ c) ∧ e ≤ n ∧ ∀ p ∈ c, ¬ (s < p ∧ p < e)
  | a, [], h, h1, h2 => ⟨a, n, h1, h2, h.2, .inl rfl, .inl rfl, Nat.le_refl _, by simp⟩
  | a, b :: c, h, h1, h2 => by
    by_cases hb : r < b
    · refine ⟨a, b, h1, hb, h.1.2, .inl rfl, .inr (by simp), Nat.le_of_lt h.2.lt, fun p hp => ?_⟩
      have all : ∀ (c : List Nat) (b : Nat), Path S b c n → ∀ p ∈ c, b < p := by
        intro c
        induction c with
        | nil => simp
        | cons x c ih =>
          intro b hc p hp
          rcases List.mem_cons.mp hp with rfl | hp
          · exact hc.1.1
          · have := ih x hc.2 p hp; have := hc.1.1; omega
      rcases List.mem_cons.mp hp with rfl | hp
      · omega
      · have := all c b h.2 p hp; omega
    · obtain ⟨s, e, q1, q2, q3, q4, q5, q6, q7⟩ := path_between h.2 (by omega) h2
      have hs : b ≤ s := by
        rcases q4 with rfl | q4
        · exact Nat.le_refl _
        · have all : ∀ (c : List Nat) (b : Nat), Path S b c n → ∀ p ∈ c, b < p := by
            intro c
            induction c with
            | nil => simp
            | cons x c ih =>
              intro b hc p hp
              rcases List.mem_cons.mp hp with rfl | hp
              · exact hc.1.1
              · have := ih x hc.2 p hp; have := hc.1.1; omega
          have := all c b h.2 s q4; omega
      refine ⟨s, e, q1, q2, q3, .inr ?_, ?_, q6, fun p hp => ?_⟩
      · rcases q4 with rfl | q4
        · exact List.mem_cons_self
        · exact List.mem_cons_of_mem _ q4
      · rcases q5 with q5 | q5
        · exact .inl q5
        · exact .inr (List.mem_cons_of_mem _ q5)
      · rcases List.mem_cons.mp hp with rfl | hp
        · omega
        · exact q7 p hp
theorem notIn_cuts (i : Int) (c : List Nat) : dNotIn (.int i) (cutsT c) = .ok (.bl (!decide (i ∈ c.map fun (x : Nat) => (x : Int)))) := by
  have : cutsT c = .tup ((c.map fun (x : Nat) => (x : Int)).map .int) := by unfold cutsT; rw [List.map_map]; rfl
  rw [this, notIn_intsT]
/-- each room keeps the seen word under the told cuts -/
theorem heard_fits {cs : List (Nat × Str)} {lks : List (Nat × List D)} {n : Nat} {c : List Nat} (hcs : LogOk n cs) (hp : Path (soundS cs lks) 0 c n) {lk : Nat × List D} (hlk : lk ∈ lks) {r : Nat} (hr : r < n) :
    fitE (entry lk.2 (r : Int)) (heardW (corr n c) n r (cs.take lk.1)) = true := by
  obtain ⟨s, e, q1, q2, q3, q4, q5, q6, q7⟩ := path_between hp (Nat.zero_le r) hr
  have hh : heardW (corr n c) n r (cs.take lk.1) = lastW (fun x => decide ((x : Int) ∈ rangeI (s : Int) (e : Int))) (cs.take lk.1) := by
    unfold heardW
    refine lastW_congr fun x hx => ?_
    have hxn := (hcs x (List.mem_of_mem_take hx)).1
    refine decide_eq_decide.mpr ?_
    rw [conn_corr ⟨q4, q5, q6, q7⟩ ⟨q1, q2⟩ hxn, mem_rangeI]
    omega
  rw [hh]
  unfold soundS soundB at q3
  have := List.all_eq_true.mp q3 lk hlk
  exact List.all_eq_true.mp this (r : Int) (by rw [mem_rangeI]; omega)
theorem seen_so_ok (cs : List (Nat × Str)) (lks : List (Nat × List D)) (n : Nat) (c : List Nat) (hn : n ≤ 1000) (hcs : LogOk n cs) (hl : ∀ lk ∈ lks, LookOk n lk) (hp : Path (soundS cs lks) 0 c n) :
    Rp (fun d => d = .bl true) (F_law_seen_so [.int (n : Int), logD cs, looksD lks, cutsT c]) := by
  simp [F_law_seen_so, B_law_seen_so, show n < 2 ^ 62 from by omega]
  refine ⟨by decide, Rp.lc (fun d => match d with | .int p => !decide (p ∈ c.map fun (x : Nat) => (x : Int)) | _ => false) (fun d => match d with | .int p => doorD (p - 1, p) | d => d) (fun d hd => ?_) (by rw [rangeD_length]; omega) ?_⟩
  · obtain ⟨i, rfl, i1, i2⟩ := rangeD_mem hd
    refine ⟨_, rfl, ?_, fun _ => ?_⟩
    · simp [notIn_cuts]
    · simp [doorD]
  · have hdoors : ((rangeD 1 (n : Int)).filter (fun d => match d with | .int p => !decide (p ∈ c.map fun (x : Nat) => (x : Int)) | _ => false)).map (fun d => match d with | .int p => doorD (p - 1, p) | d => d) = (corr n c).map doorD := by
      unfold corr
      rw [rangeD_eq, List.filter_map, List.map_map, List.map_map]; rfl
    simp only [hdoors, wp_kLst, wp_kSet, wp_kThen, List.set_cons_succ, List.set_cons_zero]
    simp [looksD]
    refine Step.loop (fun _ en => ∃ (e5 e6 e7 e8 : Option D), en = [some (.int (n : Int)), some (logD cs), some (looksD lks), some (cutsT c), some (doorsD (corr n c)), e5, e6, e7, e8]) ⟨_, _, _, _, rfl⟩ ?_ ?_
    · rintro i d en hd ⟨e5, e6, e7, e8, rfl⟩
      obtain ⟨lk, hlk, rfl⟩ := get_map hd
      have hm := List.mem_of_getElem? hlk
      have hlo := hl lk hm
      refine ⟨_, rfl, ?_⟩
      obtain ⟨d1, h1, ws, rfl, hw1, hw2⟩ := (law_hear_ok (corr n c) n (cs.take lk.1) hn).get
      have h1' : F_law_hear [.int (n : Int), .lst ((cs.map callD).take lk.1), doorsD (corr n c)] = .ok (.lst ws) := by rw [← List.map_take]; exact h1
      simp [lookD, logD, cutD_to, h1', show n < 2 ^ 62 from by omega]
      refine Step.loop (fun _ en => ∃ (e7 : Option D), en = [some (.int (n : Int)), some (logD cs), some (looksD lks), some (cutsT c), some (doorsD (corr n c)), some (lookD lk), some (.lst ws), e7, e8]) ⟨_, rfl⟩ ?_ ?_
      · rintro r d en hd ⟨e7, rfl⟩
        obtain ⟨rfl, hr⟩ := range_get hd
        refine ⟨_, rfl, ?_⟩
        obtain ⟨ha, hmem⟩ := entry_at (es := lk.2) (r := (r : Int)) (by omega) (by rw [hlo.1]; omega)
        have hq := hlo.2 _ hmem
        have hfit := heard_fits hcs hp hm hr
        rw [← hw2 r hr] at hfit
        have hq2 : EntryQ (eAt ws r) := by rw [hw2 r hr]; exact heardW_q _ _ _ _
        have hat : atI ws (r : Int) = some (eAt ws r) := eAt_at (by omega)
        unfold fitE at hfit
        simp [lookD, ha, hat, ne_q hq q_mark, ne_q hq hq2]
        cases q1 : eqFl (entry lk.2 (r : Int)) (.str (Str.ofString "?")) with
        | true => simp
        | false =>
          rw [q1] at hfit
          simp at hfit
          simp [hfit]
      · rintro en ⟨e7, rfl⟩
        exact ⟨_, _, _, _, rfl⟩
    · rintro en ⟨e5, e6, e7, e8, rfl⟩
      simp

/-! ### tail_k63 -/
theorem cutD_map {α : Type} (f : α → D) (l : List α) (k : Nat) : cutD (l.map f) none (some (k : Int)) = (l.take k).map f := by rw [cutD_to, List.map_take]
theorem cuts_wall : (Str.ofString "cuts" = Str.ofString "wall") = False := by
  have : ¬ (Str.ofString "cuts" = Str.ofString "wall") := by decide +kernel
  simp [this]
theorem wall_cuts : (Str.ofString "wall" = Str.ofString "cuts") = False := by
  have : ¬ (Str.ofString "wall" = Str.ofString "cuts") := by decide +kernel
  simp [this]
theorem same_nats (m : Nat) (l : List Nat) : (l.map natD).all (sameOk (m + 1)) = true := by
  rw [List.all_eq_true]; intro d hd; obtain ⟨x, _, rfl⟩ := List.mem_map.mp hd; rfl
theorem same_cuts (m : Nat) {c : List Nat} (h : c.length ≤ 1000000000) : sameOk (m + 2) (cutsT c) = true := by
  unfold cutsT sameOk
  rw [List.length_map, Bool.and_eq_true, decide_eq_true_eq]
  exact ⟨h, same_nats m c⟩
theorem same_log (m : Nat) {cs : List (Nat × Str)} (h : cs.length ≤ 1000000000) : sameOk (m + 3) (logD cs) = true := by
  unfold logD sameOk
  rw [List.length_map, Bool.and_eq_true, decide_eq_true_eq]
  refine ⟨h, ?_⟩
  rw [List.all_eq_true]; intro d hd; obtain ⟨x, _, rfl⟩ := List.mem_map.mp hd
  simp [callD, sameOk]
theorem same_entry (m : Nat) {e : D} (h : EntryQ e) : sameOk (m + 1) e = true := by
  rcases h with rfl | ⟨w, rfl⟩ <;> rfl
theorem same_looks (m n : Nat) {lks : List (Nat × List D)} (h : lks.length ≤ 1000000000) (hl : ∀ lk ∈ lks, LookOk n lk) (hn : n ≤ 1000000000) : sameOk (m + 4) (looksD lks) = true := by
  unfold looksD sameOk
  rw [List.length_map, Bool.and_eq_true, decide_eq_true_eq]
  refine ⟨h, ?_⟩
  rw [List.all_eq_true]; intro d hd; obtain ⟨lk, hlk, rfl⟩ := List.mem_map.mp hd
  obtain ⟨h1, h2⟩ := hl lk hlk
  simp only [lookD, sameOk]
  simp only [List.length_cons, List.length_nil, List.all_cons, List.all_nil, Bool.and_true, Bool.and_eq_true, decide_eq_true_eq]
  refine ⟨by decide, rfl, ?_⟩
  rw [sameOk, Bool.and_eq_true, decide_eq_true_eq]
  refine ⟨by omega, ?_⟩
  rw [List.all_eq_true]; intro e he
  exact same_entry m (h2 e he)
theorem path_len {S : Nat → Nat → Bool} : ∀ {c : List Nat} {a b : Nat}, Path S a c b → c.length + a < b + 1
  | [], a, b, h => by have := h.1; simp; omega
  | x :: c, a, b, h => by have := path_len h.2; have := h.1.1; simp; omega
theorem best_whole {S : Nat → Nat → Bool} {n : Nat} {c : List Nat} (hn : 0 < n) (hS : S 0 n = true) (h : Best S n 0 c) : c = [] := by
  have := h.2.1 [] ⟨hn, hS⟩
  cases c with
  | nil => rfl
  | cons => simp at this
theorem reach_iff_ways {S : Nat → Nat → Bool} {n p : Nat} {ws : List (List (List Nat))} (hW : Ways S (n + 1) ws) {w : List (List Nat)} (hw : ws[p]? = some w) : 0 < w.length ↔ Reach S p := by
  obtain ⟨h1, h2⟩ := hW.2 p w hw
  constructor
  · intro h
    obtain ⟨c, hc⟩ := List.exists_mem_of_length_pos h
    exact ⟨c, (h2 c).mp hc⟩
  · rintro ⟨c, hc⟩
    exact List.length_pos_of_mem ((h2 c).mpr hc)

/-! ### main_k63 -/
theorem main_k63 (ns : List Int) (h : ns.length ≤ 63) : F_law_k63 [.scr ns] = .ok (.bl true) := by
  apply Rp.eq
  obtain ⟨_, ec0, c0, rfl, hc0⟩ := (cell_ok ns 0 (by omega)).get
  obtain ⟨_, ec1, c1, rfl, hc1⟩ := (cell_ok ns 1 (by omega)).get
  obtain ⟨_, en0, l1, rfl, h1a, h1b⟩ := (numbers_ok c0 16 (by omega) (by omega)).get
  obtain ⟨_, en1, l2, rfl, h2a, h2b⟩ := (numbers_ok c1 34 (by omega) (by omega)).get
  have h1a : l1.length = 16 := h1a
  have h2a : l2.length = 34 := h2a
  obtain ⟨n, hn⟩ : ∃ n : Nat, (1 : Int) + l1[0] % 12 = (n : Int) := ⟨(1 + l1[0] % 12).toNat, by omega⟩
  have hn1 : 1 ≤ n := by omega
  have hn2 : n ≤ 12 := by omega
  obtain ⟨_, ew, ws0, rfl, hw1, hw2⟩ := (words_ok l2 0 4 (by omega) (by omega) (by omega) (by omega)).get
  have hw1 : ws0.length = 4 := hw1
  obtain ⟨k, hk⟩ : ∃ k : Nat, (1 : Int) + l2[8] % 4 = (k : Int) := ⟨(1 + l2[8] % 4).toNat, by omega⟩
  obtain ⟨ws, hwse⟩ : ∃ ws, ws = ws0.take k := ⟨_, rfl⟩
  have hcut : cutD (ws0.map D.str) none (some (k : Int)) = ws.map D.str := by rw [cutD_map, hwse]
  have hws : ∀ w ∈ ws, WordOk w := fun w hw => hw2 w (List.mem_of_mem_take (hwse ▸ hw))
  have hwl : 0 < ws.length := by rw [hwse, List.length_take]; omega
  obtain ⟨_, el, cs, rfl, hl1, hcs⟩ := (log_ok l2 10 (l2[9] % 13) n ws (by omega) (by omega) (by omega) (by omega) (by omega) hwl hws).get
  have hcs : LogOk n cs := by simpa using hcs
  have a0 : atI l1 0 = some l1[0] := at_some (i := 0) (by omega) (by omega)
  have a1 : atI l1 1 = some l1[1] := at_some (i := 1) (by omega) (by omega)
  have a13 : atI l1 13 = some l1[13] := at_some (i := 13) (by omega) (by omega)
  have a8 : atI l2 8 = some l2[8] := at_some (i := 8) (by omega) (by omega)
  have a9 : atI l2 9 = some l2[9] := at_some (i := 9) (by omega) (by omega)
  simp [F_law_k63, B_law_k63, ec0, en0, ec1, en1, a0, hn, a8, ew, hk, hcut, a9, el, small_int (j := 1) (by omega), show n < 2 ^ 62 from by omega]
  -- the hidden doors
  refine Rp.lc (fun d => match d with | .int p => (match atI l1 (1 + p) with | some x => decide (x % 2 = 1) | none => false) | _ => false) (fun d => match d with | .int p => doorD (p - 1, p) | d => d) (fun d hd => ?_) (by rw [rangeD_length]; omega) ?_
  · obtain ⟨i, rfl, i1, i2⟩ := rangeD_mem hd
    have hat : atI l1 (1 + i) = some (l1[(1 + i).toNat]'(by omega)) := at_some (by omega) (by omega)
    refine ⟨_, rfl, ?_, fun _ => ?_⟩
    · simp [hat]
    · simp [doorD]
  obtain ⟨ds, hds⟩ := map_of_all doorD (ds := ((rangeD 1 (n : Int)).filter (fun d => match d with | .int p => (match atI l1 (1 + p) with | some x => decide (x % 2 = 1) | none => false) | _ => false)).map (fun d => match d with | .int p => doorD (p - 1, p) | d => d)) (by
    intro d hd
    obtain ⟨x, hx, rfl⟩ := List.mem_map.mp hd
    obtain ⟨i, rfl, _, _⟩ := rangeD_mem (List.mem_filter.mp hx).1
    exact ⟨(i - 1, i), rfl⟩)
  rw [hds]
  -- how many looks
  simp only [Rp_ok, Rp_bad, Rp_exc, Rp_ite, Step_nx, Step_ret, Step_brk, Step_cnt, Step_bad, Step_exc, ev_var0, ev_varS, ev_C, ev_cYes, ev_aNil, ev_oNone, wp_B2, wp_kB2, wp_kOp, wp_U, wp_kU, wp_aCons, wp_kA, wp_kA2, wp_call, wp_cTr, wp_cBl, wp_cNot, wp_kNot, wp_cAnd, wp_kAnd, wp_cOr, wp_kOr, wp_If, wp_kIfE, wp_And, wp_kEAnd, wp_kEAnd2, wp_Or, wp_kEOr, wp_kEOr2, wp_Not, wp_kENot, wp_kENot2, wp_eTup, wp_eLst, wp_dTup, wp_dLst, wp_nArgs, wp_oSome, wp_kSomeI, wp_kSome, ev_intOf, wp_cut, wp_kCut, wp_kCut2, wp_kCut3, wp_ixO, wp_slotIx, wp_kIxO, wp_borrow, wp_kBor, wp_eLc, wp_kLc, wp_kLst, wp_kTup, wp_iSeq, wp_iRange1, wp_iRange2, wp_kRange2a, wp_kRange2, wp_iRevRange1, wp_kRevRange, wp_kRev, wp_iEnum, wp_kEnumL, wp_kEnum, wp_iRev, wp_kRevS, wp_lstRg1, wp_tupRg1, wp_kRgL, wp_kRgT, wp_lstRg2, wp_tupRg2, wp_kRg2a, wp_kRg2b, wp_seq, wp_kThen, wp_set, wp_kSet, wp_ret, wp_retN, wp_drop, wp_kDrop, wp_sNx, wp_sBrk, wp_sCnt, wp_sFor, wp_kFor, wp_app, wp_slotApp, wp_kApp, wp_put, wp_kPut, wp_slotPut, wp_kPut2, wp_ext, wp_slotExt, wp_kExt, wp_asg, wp_kAsg, ev_tgName, ev_tgTup, ev_tgNil, ev_tgConsN, ev_lcEnT, ev_lcEnF, ev_wipe0, ev_wipe, ev_tr_non, ev_tr_bl, ev_tr_int, ev_tr_lst, ev_tr_tup, ev_blOf, ev_dI, wp_dIc, ev_cMod, ev_cDiv, ev_cPow, ev_neg, ev_add, wp_addS, wp_addL, wp_addT, wp_mul, wp_mulL, wp_repL, ev_lenL, ev_lenT, ev_lenC, wp_lenS, ev_int, ev_abs, ev_listL, ev_listT, ev_listC, ev_tupL, ev_tupT, ev_max2, ev_min2, ev_cutL, ev_cutT, wp_cutS, ev_flat_int, ev_flat_str, ev_flat_non, ev_flat_bl, ev_seqL, ev_seqT, ev_seqC, ev_lstOf, wp_range1, wp_range2, rgOk_nat, ev_isN_non, ev_isN_int, ev_isN_bl, ev_isN_str, ev_isN_lst, ev_isN_tup, ev_notN_non, ev_notN_int, ev_notN_bl, ev_notN_str, ev_notN_lst, ev_notN_tup, ev_eqI, ev_eqS, ev_neI, ev_neS, ev_eqNS, ev_eqSN, ev_eqNI, ev_eqIN, ev_eqNN, ev_neNS, ev_neSN, ev_neNN, wp_ixC, wp_ixS, atI_0, atI_1, atI_2, ix_lst0, ix_lst1, ix_lst2, ix_tup0, ix_tup1, ix_tup2, wp_ixLm, wp_ixTm, isI_bool_NoneType, isI_bool_bool, isI_bool_int, isI_bool_str, isI_bool_list, isI_bool_tuple, isI_bool_dict, isI_int_NoneType, isI_int_bool, isI_int_int, isI_int_str, isI_int_list, isI_int_tuple, isI_int_dict, isI_str_NoneType, isI_str_bool, isI_str_int, isI_str_str, isI_str_list, isI_str_tuple, isI_str_dict, isI_list_NoneType, isI_list_bool, isI_list_int, isI_list_str, isI_list_list, isI_list_tuple, isI_list_dict, isI_tuple_NoneType, isI_tuple_bool, isI_tuple_int, isI_tuple_str, isI_tuple_list, isI_tuple_tuple, isI_tuple_dict, isI_dict_NoneType, isI_dict_bool, isI_dict_int, isI_dict_str, isI_dict_list, isI_dict_tuple, isI_dict_dict, isB_non, isB_bl, isB_int, isB_str, isB_lst, isB_tup, in_ints, notIn_ints, in_intsT, notIn_intsT, List.set_cons_succ, List.set_cons_zero, List.getElem?_cons_zero, List.getElem?_cons_succ, List.length_cons, List.length_nil, List.length_map, Nat.reduceAdd, true_and, and_true, Nat.reduceLeDiff, Nat.le_refl, reduceIte, Nat.zero_le, decide_true, Int.reduceLT, Int.reduceLE, Bool.and_true, Bool.true_and, Nat.reduceLT, List.map_cons, List.map_nil, List.cons_append, List.nil_append, Nat.reduceSub, Nat.zero_add, Nat.reducePow, Option.some.injEq, exists_eq_left', a1]
  refine wp_if_set (e0 := .int (l1[1] % 5)) (fun d => ∃ m : Nat, d = .int (m : Int) ∧ m ≤ 8) ?_ ?_ ?_ ⟨(l1[1] % 5).toNat, congrArg D.int (by omega), by omega⟩ fun d hd => ?_
  · rfl
  · simp [a13]
  · simp
    exact ⟨(l1[1] % 5 + 4).toNat, by omega, by omega⟩
  obtain ⟨many, rfl, hmany⟩ := hd
  simp only [Rp_ok, Rp_bad, Rp_exc, Rp_ite, Step_nx, Step_ret, Step_brk, Step_cnt, Step_bad, Step_exc, ev_var0, ev_varS, ev_C, ev_cYes, ev_aNil, ev_oNone, wp_B2, wp_kB2, wp_kOp, wp_U, wp_kU, wp_aCons, wp_kA, wp_kA2, wp_call, wp_cTr, wp_cBl, wp_cNot, wp_kNot, wp_cAnd, wp_kAnd, wp_cOr, wp_kOr, wp_If, wp_kIfE, wp_And, wp_kEAnd, wp_kEAnd2, wp_Or, wp_kEOr, wp_kEOr2, wp_Not, wp_kENot, wp_kENot2, wp_eTup, wp_eLst, wp_dTup, wp_dLst, wp_nArgs, wp_oSome, wp_kSomeI, wp_kSome, ev_intOf, wp_cut, wp_kCut, wp_kCut2, wp_kCut3, wp_ixO, wp_slotIx, wp_kIxO, wp_borrow, wp_kBor, wp_eLc, wp_kLc, wp_kLst, wp_kTup, wp_iSeq, wp_iRange1, wp_iRange2, wp_kRange2a, wp_kRange2, wp_iRevRange1, wp_kRevRange, wp_kRev, wp_iEnum, wp_kEnumL, wp_kEnum, wp_iRev, wp_kRevS, wp_lstRg1, wp_tupRg1, wp_kRgL, wp_kRgT, wp_lstRg2, wp_tupRg2, wp_kRg2a, wp_kRg2b, wp_seq, wp_kThen, wp_set, wp_kSet, wp_ret, wp_retN, wp_drop, wp_kDrop, wp_sNx, wp_sBrk, wp_sCnt, wp_sFor, wp_kFor, wp_app, wp_slotApp, wp_kApp, wp_put, wp_kPut, wp_slotPut, wp_kPut2, wp_ext, wp_slotExt, wp_kExt, wp_asg, wp_kAsg, ev_tgName, ev_tgTup, ev_tgNil, ev_tgConsN, ev_lcEnT, ev_lcEnF, ev_wipe0, ev_wipe, ev_tr_non, ev_tr_bl, ev_tr_int, ev_tr_lst, ev_tr_tup, ev_blOf, ev_dI, wp_dIc, ev_cMod, ev_cDiv, ev_cPow, ev_neg, ev_add, wp_addS, wp_addL, wp_addT, wp_mul, wp_mulL, wp_repL, ev_lenL, ev_lenT, ev_lenC, wp_lenS, ev_int, ev_abs, ev_listL, ev_listT, ev_listC, ev_tupL, ev_tupT, ev_max2, ev_min2, ev_cutL, ev_cutT, wp_cutS, ev_flat_int, ev_flat_str, ev_flat_non, ev_flat_bl, ev_seqL, ev_seqT, ev_seqC, ev_lstOf, wp_range1, wp_range2, rgOk_nat, ev_isN_non, ev_isN_int, ev_isN_bl, ev_isN_str, ev_isN_lst, ev_isN_tup, ev_notN_non, ev_notN_int, ev_notN_bl, ev_notN_str, ev_notN_lst, ev_notN_tup, ev_eqI, ev_eqS, ev_neI, ev_neS, ev_eqNS, ev_eqSN, ev_eqNI, ev_eqIN, ev_eqNN, ev_neNS, ev_neSN, ev_neNN, wp_ixC, wp_ixS, atI_0, atI_1, atI_2, ix_lst0, ix_lst1, ix_lst2, ix_tup0, ix_tup1, ix_tup2, wp_ixLm, wp_ixTm, isI_bool_NoneType, isI_bool_bool, isI_bool_int, isI_bool_str, isI_bool_list, isI_bool_tuple, isI_bool_dict, isI_int_NoneType, isI_int_bool, isI_int_int, isI_int_str, isI_int_list, isI_int_tuple, isI_int_dict, isI_str_NoneType, isI_str_bool, isI_str_int, isI_str_str, isI_str_list, isI_str_tuple, isI_str_dict, isI_list_NoneType, isI_list_bool, isI_list_int, isI_list_str, isI_list_list, isI_list_tuple, isI_list_dict, isI_tuple_NoneType, isI_tuple_bool, isI_tuple_int, isI_tuple_str, isI_tuple_list, isI_tuple_tuple, isI_tuple_dict, isI_dict_NoneType, isI_dict_bool, isI_dict_int, isI_dict_str, isI_dict_list, isI_dict_tuple, isI_dict_dict, isB_non, isB_bl, isB_int, isB_str, isB_lst, isB_tup, in_ints, notIn_ints, in_intsT, notIn_intsT, List.set_cons_succ, List.set_cons_zero, List.getElem?_cons_zero, List.getElem?_cons_succ, List.length_cons, List.length_nil, List.length_map, Nat.reduceAdd, true_and, and_true, Nat.reduceLeDiff, Nat.le_refl, reduceIte, Nat.zero_le, decide_true, Int.reduceLT, Int.reduceLE, Bool.and_true, Bool.true_and, Nat.reduceLT, List.map_cons, List.map_nil, List.cons_append, List.nil_append, Nat.reduceSub, Nat.zero_add, Nat.reducePow, Option.some.injEq, exists_eq_left', show many < 2 ^ 62 from by omega]
  refine Step.loop (fun i en => ∃ (lks : List (Nat × List D)) (e9 e14 : Option D), en = [some (.scr ns), some (.lst (l1.map .int)), some (.lst (l2.map .int)), some (.int (n : Int)), some (.lst (ws.map .str)), some (logD cs), some (doorsD ds), some (.int (many : Int)), some (looksD lks), e9, none, none, none, none, e14, none, none, none, none] ∧ lks.length = i ∧ ∀ lk ∈ lks, LookOk n lk)
    ⟨[], _, _, rfl, rfl, by simp⟩ ?_ ?_
  · rintro i d en hd ⟨lks, e9, e14, rfl, q2, q3⟩
    obtain ⟨rfl, hi⟩ := range_get hd
    refine ⟨_, rfl, ?_⟩
    obtain ⟨_, e1, c, rfl, hc⟩ := (cell_ok ns (2 + (i : Int)) (by omega)).get
    obtain ⟨_, e2, l, rfl, hl, hlb⟩ := (numbers_ok (c + 7 * (i : Int)) 14 (by omega) (by omega)).get
    have hl : l.length = 14 := hl
    obtain ⟨_, e3, lk, rfl, hlk, _⟩ := (partial_look_ok l n cs ds ws (by omega) (by omega) (by omega) hws (by omega)).get
    simp [e1, e2, e3, looksD]
    refine ⟨by omega, lks ++ [lk], by simp [looksD], by simp [q2], fun a b hab => ?_⟩
    rcases List.mem_append.mp hab with hab | hab
    · exact q3 _ hab
    · simp at hab; subst hab; exact hlk
  · rintro en ⟨lks, e9, e14, rfl, q2, q3⟩
    rw [rangeD_length] at q2
    have hlklen : lks.length ≤ 1000000000 := by omega
    obtain ⟨_, e1, ways, rfl, hW⟩ := (law_cuts_ok cs lks n hn2 q3).get
    obtain ⟨d2, e2, hans⟩ := (cuts_answer_ok cs lks n (by omega) (by omega) q3).get
    obtain ⟨d3, e3, hans0⟩ := (cuts_answer_ok cs [] n (by omega) (by omega) (by simp)).get
    simp only [Rp_ok, Rp_bad, Rp_exc, Rp_ite, Step_nx, Step_ret, Step_brk, Step_cnt, Step_bad, Step_exc, ev_var0, ev_varS, ev_C, ev_cYes, ev_aNil, ev_oNone, wp_B2, wp_kB2, wp_kOp, wp_U, wp_kU, wp_aCons, wp_kA, wp_kA2, wp_call, wp_cTr, wp_cBl, wp_cNot, wp_kNot, wp_cAnd, wp_kAnd, wp_cOr, wp_kOr, wp_If, wp_kIfE, wp_And, wp_kEAnd, wp_kEAnd2, wp_Or, wp_kEOr, wp_kEOr2, wp_Not, wp_kENot, wp_kENot2, wp_eTup, wp_eLst, wp_dTup, wp_dLst, wp_nArgs, wp_oSome, wp_kSomeI, wp_kSome, ev_intOf, wp_cut, wp_kCut, wp_kCut2, wp_kCut3, wp_ixO, wp_slotIx, wp_kIxO, wp_borrow, wp_kBor, wp_eLc, wp_kLc, wp_kLst, wp_kTup, wp_iSeq, wp_iRange1, wp_iRange2, wp_kRange2a, wp_kRange2, wp_iRevRange1, wp_kRevRange, wp_kRev, wp_iEnum, wp_kEnumL, wp_kEnum, wp_iRev, wp_kRevS, wp_lstRg1, wp_tupRg1, wp_kRgL, wp_kRgT, wp_lstRg2, wp_tupRg2, wp_kRg2a, wp_kRg2b, wp_seq, wp_kThen, wp_set, wp_kSet, wp_ret, wp_retN, wp_drop, wp_kDrop, wp_sNx, wp_sBrk, wp_sCnt, wp_sFor, wp_kFor, wp_app, wp_slotApp, wp_kApp, wp_put, wp_kPut, wp_slotPut, wp_kPut2, wp_ext, wp_slotExt, wp_kExt, wp_asg, wp_kAsg, ev_tgName, ev_tgTup, ev_tgNil, ev_tgConsN, ev_lcEnT, ev_lcEnF, ev_wipe0, ev_wipe, ev_tr_non, ev_tr_bl, ev_tr_int, ev_tr_lst, ev_tr_tup, ev_blOf, ev_dI, wp_dIc, ev_cMod, ev_cDiv, ev_cPow, ev_neg, ev_add, wp_addS, wp_addL, wp_addT, wp_mul, wp_mulL, wp_repL, ev_lenL, ev_lenT, ev_lenC, wp_lenS, ev_int, ev_abs, ev_listL, ev_listT, ev_listC, ev_tupL, ev_tupT, ev_max2, ev_min2, ev_cutL, ev_cutT, wp_cutS, ev_flat_int, ev_flat_str, ev_flat_non, ev_flat_bl, ev_seqL, ev_seqT, ev_seqC, ev_lstOf, wp_range1, wp_range2, rgOk_nat, ev_isN_non, ev_isN_int, ev_isN_bl, ev_isN_str, ev_isN_lst, ev_isN_tup, ev_notN_non, ev_notN_int, ev_notN_bl, ev_notN_str, ev_notN_lst, ev_notN_tup, ev_eqI, ev_eqS, ev_neI, ev_neS, ev_eqNS, ev_eqSN, ev_eqNI, ev_eqIN, ev_eqNN, ev_neNS, ev_neSN, ev_neNN, wp_ixC, wp_ixS, atI_0, atI_1, atI_2, ix_lst0, ix_lst1, ix_lst2, ix_tup0, ix_tup1, ix_tup2, wp_ixLm, wp_ixTm, isI_bool_NoneType, isI_bool_bool, isI_bool_int, isI_bool_str, isI_bool_list, isI_bool_tuple, isI_bool_dict, isI_int_NoneType, isI_int_bool, isI_int_int, isI_int_str, isI_int_list, isI_int_tuple, isI_int_dict, isI_str_NoneType, isI_str_bool, isI_str_int, isI_str_str, isI_str_list, isI_str_tuple, isI_str_dict, isI_list_NoneType, isI_list_bool, isI_list_int, isI_list_str, isI_list_list, isI_list_tuple, isI_list_dict, isI_tuple_NoneType, isI_tuple_bool, isI_tuple_int, isI_tuple_str, isI_tuple_list, isI_tuple_tuple, isI_tuple_dict, isI_dict_NoneType, isI_dict_bool, isI_dict_int, isI_dict_str, isI_dict_list, isI_dict_tuple, isI_dict_dict, isB_non, isB_bl, isB_int, isB_str, isB_lst, isB_tup, in_ints, notIn_ints, in_intsT, notIn_intsT, List.set_cons_succ, List.set_cons_zero, List.getElem?_cons_zero, List.getElem?_cons_succ, List.length_cons, List.length_nil, List.length_map, Nat.reduceAdd, true_and, and_true, Nat.reduceLeDiff, Nat.le_refl, reduceIte, Nat.zero_le, decide_true, Int.reduceLT, Int.reduceLE, Bool.and_true, Bool.true_and, Nat.reduceLT, List.map_cons, List.map_nil, List.cons_append, List.nil_append, Nat.reduceSub, Nat.zero_add, Nat.reducePow, Option.some.injEq, exists_eq_left', e1, small_int (j := (n : Int) + 1) (by omega)]
    refine Rp.lc (fun d => match d with | .int p => (match ways[p.toNat]? with | some w => decide (0 < w.length) | none => false) | _ => false) id (fun d hd => ?_) (by rw [rangeD_length]; omega) ?_
    · obtain ⟨i, rfl, i1, i2⟩ := rangeD_mem hd
      obtain ⟨j, rfl⟩ : ∃ j : Nat, i = j := ⟨i.toNat, by omega⟩
      obtain ⟨w, hw⟩ : ∃ w, ways[j]? = some w := ⟨_, List.getElem?_eq_getElem (by have := hW.1; omega)⟩
      refine ⟨_, rfl, ?_, fun _ => ?_⟩
      · have hat : atI ways (j : Int) = some w := by rw [at_nat]; exact hw
        simp [hat, waysD, hw]
      · simp
    classical
    have hplaces : ((rangeD 0 ((n : Int) + 1)).filter (fun d => match d with | .int p => (match ways[p.toNat]? with | some w => decide (0 < w.length) | none => false) | _ => false)).map id = ((List.range (n + 1)).filter fun b => decide (Reach (soundS cs lks) b)).map natD := by
      have : rangeD 0 ((n : Int) + 1) = (List.range (n + 1)).map natD := by
        rw [show ((n : Int) + 1) = ((n + 1 : Nat) : Int) from by omega, rangeD_nat]; rfl
      rw [this, List.map_id, List.filter_map]
      refine congrArg (List.map natD) (List.filter_congr fun b hb => ?_)
      rw [List.mem_range] at hb
      obtain ⟨w, hw⟩ : ∃ w, ways[b]? = some w := ⟨_, List.getElem?_eq_getElem (by have := hW.1; omega)⟩
      simp only [Function.comp, natD, Int.toNat_natCast, hw]
      exact decide_eq_decide.mpr (reach_iff_ways hW hw)
    rw [hplaces]
    simp only [Rp_ok, Rp_bad, Rp_exc, Rp_ite, Step_nx, Step_ret, Step_brk, Step_cnt, Step_bad, Step_exc, ev_var0, ev_varS, ev_C, ev_cYes, ev_aNil, ev_oNone, wp_B2, wp_kB2, wp_kOp, wp_U, wp_kU, wp_aCons, wp_kA, wp_kA2, wp_call, wp_cTr, wp_cBl, wp_cNot, wp_kNot, wp_cAnd, wp_kAnd, wp_cOr, wp_kOr, wp_If, wp_kIfE, wp_And, wp_kEAnd, wp_kEAnd2, wp_Or, wp_kEOr, wp_kEOr2, wp_Not, wp_kENot, wp_kENot2, wp_eTup, wp_eLst, wp_dTup, wp_dLst, wp_nArgs, wp_oSome, wp_kSomeI, wp_kSome, ev_intOf, wp_cut, wp_kCut, wp_kCut2, wp_kCut3, wp_ixO, wp_slotIx, wp_kIxO, wp_borrow, wp_kBor, wp_eLc, wp_kLc, wp_kLst, wp_kTup, wp_iSeq, wp_iRange1, wp_iRange2, wp_kRange2a, wp_kRange2, wp_iRevRange1, wp_kRevRange, wp_kRev, wp_iEnum, wp_kEnumL, wp_kEnum, wp_iRev, wp_kRevS, wp_lstRg1, wp_tupRg1, wp_kRgL, wp_kRgT, wp_lstRg2, wp_tupRg2, wp_kRg2a, wp_kRg2b, wp_seq, wp_kThen, wp_set, wp_kSet, wp_ret, wp_retN, wp_drop, wp_kDrop, wp_sNx, wp_sBrk, wp_sCnt, wp_sFor, wp_kFor, wp_app, wp_slotApp, wp_kApp, wp_put, wp_kPut, wp_slotPut, wp_kPut2, wp_ext, wp_slotExt, wp_kExt, wp_asg, wp_kAsg, ev_tgName, ev_tgTup, ev_tgNil, ev_tgConsN, ev_lcEnT, ev_lcEnF, ev_wipe0, ev_wipe, ev_tr_non, ev_tr_bl, ev_tr_int, ev_tr_lst, ev_tr_tup, ev_blOf, ev_dI, wp_dIc, ev_cMod, ev_cDiv, ev_cPow, ev_neg, ev_add, wp_addS, wp_addL, wp_addT, wp_mul, wp_mulL, wp_repL, ev_lenL, ev_lenT, ev_lenC, wp_lenS, ev_int, ev_abs, ev_listL, ev_listT, ev_listC, ev_tupL, ev_tupT, ev_max2, ev_min2, ev_cutL, ev_cutT, wp_cutS, ev_flat_int, ev_flat_str, ev_flat_non, ev_flat_bl, ev_seqL, ev_seqT, ev_seqC, ev_lstOf, wp_range1, wp_range2, rgOk_nat, ev_isN_non, ev_isN_int, ev_isN_bl, ev_isN_str, ev_isN_lst, ev_isN_tup, ev_notN_non, ev_notN_int, ev_notN_bl, ev_notN_str, ev_notN_lst, ev_notN_tup, ev_eqI, ev_eqS, ev_neI, ev_neS, ev_eqNS, ev_eqSN, ev_eqNI, ev_eqIN, ev_eqNN, ev_neNS, ev_neSN, ev_neNN, wp_ixC, wp_ixS, atI_0, atI_1, atI_2, ix_lst0, ix_lst1, ix_lst2, ix_tup0, ix_tup1, ix_tup2, wp_ixLm, wp_ixTm, isI_bool_NoneType, isI_bool_bool, isI_bool_int, isI_bool_str, isI_bool_list, isI_bool_tuple, isI_bool_dict, isI_int_NoneType, isI_int_bool, isI_int_int, isI_int_str, isI_int_list, isI_int_tuple, isI_int_dict, isI_str_NoneType, isI_str_bool, isI_str_int, isI_str_str, isI_str_list, isI_str_tuple, isI_str_dict, isI_list_NoneType, isI_list_bool, isI_list_int, isI_list_str, isI_list_list, isI_list_tuple, isI_list_dict, isI_tuple_NoneType, isI_tuple_bool, isI_tuple_int, isI_tuple_str, isI_tuple_list, isI_tuple_tuple, isI_tuple_dict, isI_dict_NoneType, isI_dict_bool, isI_dict_int, isI_dict_str, isI_dict_list, isI_dict_tuple, isI_dict_dict, isB_non, isB_bl, isB_int, isB_str, isB_lst, isB_tup, in_ints, notIn_ints, in_intsT, notIn_intsT, List.set_cons_succ, List.set_cons_zero, List.getElem?_cons_zero, List.getElem?_cons_succ, List.length_cons, List.length_nil, List.length_map, Nat.reduceAdd, true_and, and_true, Nat.reduceLeDiff, Nat.le_refl, reduceIte, Nat.zero_le, decide_true, Int.reduceLT, Int.reduceLE, Bool.and_true, Bool.true_and, Nat.reduceLT, List.map_cons, List.map_nil, List.cons_append, List.nil_append, Nat.reduceSub, Nat.zero_add, Nat.reducePow, Option.some.injEq, exists_eq_left']
    have hpl : D.tup (((List.range (n + 1)).filter fun b => decide (Reach (soundS cs lks) b)).map natD) = placesT (soundS cs lks) n := by
      unfold placesT; congr
    rw [hpl]
    obtain ⟨w, hw⟩ : ∃ w, ways[n]? = some w := ⟨_, List.getElem?_eq_getElem (by have := hW.1; omega)⟩
    have hat : atI ways (n : Int) = some w := by rw [at_nat]; exact hw
    have hrw := reach_iff_ways hW hw
    obtain ⟨hw1', hw2'⟩ := hW.2 n w hw
    have hpow : (2 : Nat) ^ n ≤ 2 ^ 12 := Nat.pow_le_pow_right (by omega) hn2
    have h12 : (2 : Nat) ^ 12 = 4096 := rfl
    -- what is due is what is told
    refine wp_if_set2 (e0 := .tup [.str (Str.ofString "wall"), placesT (soundS cs lks) n]) (fun d => d = d2) (decide (0 < w.length)) ?_ ?_ ?_ ?_ fun due hdue => ?_
    · rfl
    · simp [hat, waysD]
    · intro hpos
      have hpos : 0 < w.length := by simpa using hpos
      obtain ⟨c, hc, hmin⟩ := min_best (by omega) hw2' (List.length_pos_iff.mp hpos)
      simp [hat, waysD]
      refine Rp.lc (fun _ => true) (fun d => match d with | .tup ds => .tup [.int (ds.length : Int), .tup ds] | d => d) (fun d hd => ?_) (by rw [List.length_map]; omega) ?_
      · obtain ⟨c', hc', rfl⟩ := List.mem_map.mp hd
        refine ⟨_, rfl, .ok rfl, fun _ => ?_⟩
        simp [cutsT]
      · rw [List.filter_eq_self.mpr fun _ _ => rfl, List.map_map]
        have e : w.map ((fun d => match d with | D.tup ds => D.tup [.int (ds.length : Int), .tup ds] | d => d) ∘ cutsT) = w.map fun c => D.tup [.int (c.length : Int), cutsT c] := by
          refine List.map_congr_left fun c _ => ?_
          simp [cutsT]
        rw [e]
        simp [hmin]
        rcases hans with ⟨c', hc', rfl⟩ | ⟨hno, rfl⟩
        · rw [best_unique hc hc']
        · exact absurd (hrw.mp hpos) hno
    · intro hno
      have hno : ¬ 0 < w.length := by simpa using hno
      rcases hans with ⟨c', hc', rfl⟩ | ⟨_, rfl⟩
      · exact absurd (hrw.mpr ⟨c', by unfold WayTo; rw [if_neg (by omega)]; exact hc'.1⟩) hno
      · rfl
    subst hdue
    -- what was handed in
    simp only [Rp_ok, Rp_bad, Rp_exc, Rp_ite, Step_nx, Step_ret, Step_brk, Step_cnt, Step_bad, Step_exc, ev_var0, ev_varS, ev_C, ev_cYes, ev_aNil, ev_oNone, wp_B2, wp_kB2, wp_kOp, wp_U, wp_kU, wp_aCons, wp_kA, wp_kA2, wp_call, wp_cTr, wp_cBl, wp_cNot, wp_kNot, wp_cAnd, wp_kAnd, wp_cOr, wp_kOr, wp_If, wp_kIfE, wp_And, wp_kEAnd, wp_kEAnd2, wp_Or, wp_kEOr, wp_kEOr2, wp_Not, wp_kENot, wp_kENot2, wp_eTup, wp_eLst, wp_dTup, wp_dLst, wp_nArgs, wp_oSome, wp_kSomeI, wp_kSome, ev_intOf, wp_cut, wp_kCut, wp_kCut2, wp_kCut3, wp_ixO, wp_slotIx, wp_kIxO, wp_borrow, wp_kBor, wp_eLc, wp_kLc, wp_kLst, wp_kTup, wp_iSeq, wp_iRange1, wp_iRange2, wp_kRange2a, wp_kRange2, wp_iRevRange1, wp_kRevRange, wp_kRev, wp_iEnum, wp_kEnumL, wp_kEnum, wp_iRev, wp_kRevS, wp_lstRg1, wp_tupRg1, wp_kRgL, wp_kRgT, wp_lstRg2, wp_tupRg2, wp_kRg2a, wp_kRg2b, wp_seq, wp_kThen, wp_set, wp_kSet, wp_ret, wp_retN, wp_drop, wp_kDrop, wp_sNx, wp_sBrk, wp_sCnt, wp_sFor, wp_kFor, wp_app, wp_slotApp, wp_kApp, wp_put, wp_kPut, wp_slotPut, wp_kPut2, wp_ext, wp_slotExt, wp_kExt, wp_asg, wp_kAsg, ev_tgName, ev_tgTup, ev_tgNil, ev_tgConsN, ev_lcEnT, ev_lcEnF, ev_wipe0, ev_wipe, ev_tr_non, ev_tr_bl, ev_tr_int, ev_tr_lst, ev_tr_tup, ev_blOf, ev_dI, wp_dIc, ev_cMod, ev_cDiv, ev_cPow, ev_neg, ev_add, wp_addS, wp_addL, wp_addT, wp_mul, wp_mulL, wp_repL, ev_lenL, ev_lenT, ev_lenC, wp_lenS, ev_int, ev_abs, ev_listL, ev_listT, ev_listC, ev_tupL, ev_tupT, ev_max2, ev_min2, ev_cutL, ev_cutT, wp_cutS, ev_flat_int, ev_flat_str, ev_flat_non, ev_flat_bl, ev_seqL, ev_seqT, ev_seqC, ev_lstOf, wp_range1, wp_range2, rgOk_nat, ev_isN_non, ev_isN_int, ev_isN_bl, ev_isN_str, ev_isN_lst, ev_isN_tup, ev_notN_non, ev_notN_int, ev_notN_bl, ev_notN_str, ev_notN_lst, ev_notN_tup, ev_eqI, ev_eqS, ev_neI, ev_neS, ev_eqNS, ev_eqSN, ev_eqNI, ev_eqIN, ev_eqNN, ev_neNS, ev_neSN, ev_neNN, wp_ixC, wp_ixS, atI_0, atI_1, atI_2, ix_lst0, ix_lst1, ix_lst2, ix_tup0, ix_tup1, ix_tup2, wp_ixLm, wp_ixTm, isI_bool_NoneType, isI_bool_bool, isI_bool_int, isI_bool_str, isI_bool_list, isI_bool_tuple, isI_bool_dict, isI_int_NoneType, isI_int_bool, isI_int_int, isI_int_str, isI_int_list, isI_int_tuple, isI_int_dict, isI_str_NoneType, isI_str_bool, isI_str_int, isI_str_str, isI_str_list, isI_str_tuple, isI_str_dict, isI_list_NoneType, isI_list_bool, isI_list_int, isI_list_str, isI_list_list, isI_list_tuple, isI_list_dict, isI_tuple_NoneType, isI_tuple_bool, isI_tuple_int, isI_tuple_str, isI_tuple_list, isI_tuple_tuple, isI_tuple_dict, isI_dict_NoneType, isI_dict_bool, isI_dict_int, isI_dict_str, isI_dict_list, isI_dict_tuple, isI_dict_dict, isB_non, isB_bl, isB_int, isB_str, isB_lst, isB_tup, in_ints, notIn_ints, in_intsT, notIn_intsT, List.set_cons_succ, List.set_cons_zero, List.getElem?_cons_zero, List.getElem?_cons_succ, List.length_cons, List.length_nil, List.length_map, Nat.reduceAdd, true_and, and_true, Nat.reduceLeDiff, Nat.le_refl, reduceIte, Nat.zero_le, decide_true, Int.reduceLT, Int.reduceLE, Bool.and_true, Bool.true_and, Nat.reduceLT, List.map_cons, List.map_nil, List.cons_append, List.nil_append, Nat.reduceSub, Nat.zero_add, Nat.reducePow, Option.some.injEq, exists_eq_left', looksD, logD]
    refine Rp.lc (fun _ => true) id (fun d hd => ?_) (by rw [List.length_map]; omega) ?_
    · obtain ⟨lk, hlk, rfl⟩ := List.mem_map.mp hd
      refine ⟨_, rfl, .ok rfl, fun _ => ?_⟩
      simp [lookD]
    rw [List.filter_eq_self.mpr fun _ _ => rfl, List.map_id]
    have e2' : F_cuts_answer [.int (n : Int), .lst (cs.map callD), .lst (lks.map lookD)] = .ok due := e2
    have hS0 : ∀ a b, soundS cs [] a b = true := fun a b => rfl
    have hd3 : d3 = .tup [.str (Str.ofString "cuts"), .tup []] := by
      rcases hans0 with ⟨c, hc, rfl⟩ | ⟨hno, _⟩
      · rw [best_whole (by omega) (hS0 0 n) hc]; rfl
      · exact absurd ⟨[], by unfold WayTo; rw [if_neg (by omega)]; exact ⟨by omega, hS0 0 n⟩⟩ hno
    subst hd3
    have e3' : F_cuts_answer [.int (n : Int), .lst (cs.map callD), .lst []] = .ok (.tup [.str (Str.ofString "cuts"), .tup []]) := e3
    have s0 := (same_ok 12 (.tup [.str (Str.ofString "cuts"), .tup []]) (by decide +kernel)).eq
    have s1 : sameOk 12 due = true := by
      rcases hans with ⟨c, hc, rfl⟩ | ⟨hno, rfl⟩
      · have hcl : c.length ≤ 1000000000 := by have := path_len hc.1; omega
        have := same_cuts 9 hcl
        rw [sameOk]
        simp only [List.length_cons, List.length_nil, List.all_cons, List.all_nil, Bool.and_true, this]
        rfl
      · have hcl : (((List.range (n + 1)).filter fun b => decide (Reach (soundS cs lks) b))).length ≤ 1000000000 := by
          have := List.length_filter_le (fun b => decide (Reach (soundS cs lks) b)) (List.range (n + 1))
          rw [List.length_range] at this; omega
        have := same_cuts 9 hcl
        rw [sameOk]
        rw [show cutsT ((List.range (n + 1)).filter fun b => decide (Reach (soundS cs lks) b)) = placesT (soundS cs lks) n from hpl] at this
        simp only [List.length_cons, List.length_nil, List.all_cons, List.all_nil, Bool.and_true, this]
        rfl
    have s1 := (same_ok 12 due s1).eq
    have s2 : sameOk 12 (.lst [.lst (cs.map callD), .lst (lks.map lookD)]) = true := by
      have h1 : sameOk 11 (.lst (cs.map callD)) = true := same_log 8 (cs := cs) (by rw [hl1]; omega)
      have h2 : sameOk 11 (.lst (lks.map lookD)) = true := same_looks 7 n hlklen q3 (by omega)
      rw [sameOk]
      simp only [List.length_cons, List.length_nil, List.all_cons, List.all_nil, Bool.and_true, h1, h2]
      rfl
    have s2 := (same_ok 12 _ s2).eq
    rcases hans with ⟨c, hc, rfl⟩ | ⟨hno, rfl⟩
    · have e4 := (seen_so_ok cs lks n c (by omega) hcs q3 hc.1).eq
      have e4' : F_law_seen_so [.int (n : Int), .lst (cs.map callD), .lst (lks.map lookD), cutsT c] = .ok (.bl true) := e4
      simp [e2', s1, s0, e3', s2, cuts_wall, e4']
    · have hnin : dIn (.int (n : Int)) (placesT (soundS cs lks) n) = .ok (.bl false) := by
        rw [← hpl]
        have : D.tup (((List.range (n + 1)).filter fun b => decide (Reach (soundS cs lks) b)).map natD) = .tup ((((List.range (n + 1)).filter fun b => decide (Reach (soundS cs lks) b)).map fun (x : Nat) => (x : Int)).map .int) := by rw [List.map_map]; rfl
        have hd : decide ((n : Int) ∈ (((List.range (n + 1)).filter fun b => decide (Reach (soundS cs lks) b)).map fun (x : Nat) => (x : Int))) = false := by
          rw [decide_eq_false_iff_not, List.mem_map]
          rintro ⟨x, hx, hxn⟩
          have : x = n := by omega
          subst this
          rw [List.mem_filter] at hx
          exact hno (by simpa using hx.2)
        rw [this, in_intsT, hd]
      simp [e2', s1, s0, e3', s2, wall_cuts, hnin]
end Fd

set_option Elab.async false
set_option linter.all false
set_option maxRecDepth 100000
set_option maxHeartbeats 4000000
/-! The walk through each def (printed by gen.py). -/
namespace Nk63
open PySem PySem.Spec PyProof.Rows L2 Fd
def topS (i : Nat) : Stmt := PySem.Challenge.pw_callsheard_k63_whole_cuts_answer.main.body.getD i (.Pass ⟨0, 0, 0, 0⟩)
structure Tx (K : PySem.W.Frag) (mg : Str → Option Value) where
  ca : String → Addr
  law_numbers : DefAt K mg "_law_numbers" "_law_numbers" (topS 17) ["cell", "count"]
  law_log : DefAt K mg "_law_log" "_law_log" (topS 20) ["numbers", "at", "many", "rooms", "words"]
  law_word_of : DefAt K mg "_law_word_of" "_law_word_of" (topS 22) ["log", "rooms"]
  law_sound : DefAt K mg "_law_sound" "_law_sound" (topS 27) ["log", "looks", "start", "end"]
  law_cuts_up_to : DefAt K mg "_law_cuts_up_to" "_law_cuts_up_to" (topS 28) ["rooms", "log", "looks"]
  stretch_rooms : DefAt K mg "stretch_rooms" "stretch_rooms" (topS 6) ["start", "end"]
  word_of : DefAt K mg "word_of" "word_of" (topS 1) ["log", "rooms"]
  first_calls : DefAt K mg "first_calls" "first_calls" (topS 3) ["log", "look"]
  stretch_is_sound : DefAt K mg "stretch_is_sound" "stretch_is_sound" (topS 7) ["log", "looks", "start", "end"]
  sound_ends : DefAt K mg "sound_ends" "sound_ends" (topS 8) ["rooms", "log", "looks"]
  fewest_stretches : DefAt K mg "fewest_stretches" "fewest_stretches" (topS 10) ["ends"]
  first_end : DefAt K mg "first_end" "first_end" (topS 11) ["ends", "fewest", "start"]
  fewest_cuts : DefAt K mg "fewest_cuts" "fewest_cuts" (topS 12) ["ends", "fewest"]
  ways_from_start : DefAt K mg "ways_from_start" "ways_from_start" (topS 9) ["ends"]
  reachable_places : DefAt K mg "reachable_places" "reachable_places" (topS 13) ["ends"]
  cuts_answer : DefAt K mg "cuts_answer" "cuts_answer" (topS 14) ["rooms", "log", "looks"]
  law_same : DefAt K mg "_law_same" "_law_same" (topS 24) ["got", "due"]
  law_cell : DefAt K mg "_law_cell" "_law_cell" (topS 16) ["script", "k"]
  law_word : DefAt K mg "_law_word" "_law_word" (topS 18) ["a", "b"]
  law_words : DefAt K mg "_law_words" "_law_words" (topS 19) ["numbers", "at", "many"]
  law_reach : DefAt K mg "_law_reach" "_law_reach" (topS 21) ["doors", "start", "inside"]
  law_hear : DefAt K mg "_law_hear" "_law_hear" (topS 23) ["rooms", "log", "opening"]
  law_pick : DefAt K mg "_law_pick" "_law_pick" (topS 25) ["pool", "number"]
  law_partial_look : DefAt K mg "_law_partial_look" "_law_partial_look" (topS 26) ["numbers", "rooms", "log", "hidden", "words"]
  law_seen_so : DefAt K mg "_law_seen_so" "_law_seen_so" (topS 29) ["rooms", "log", "looks", "cuts"]
  law : DefAt K mg "law" "law" (topS 30) ["script"]
  m_abs : mg "abs" = none
  m_bool : mg "bool" = none
  m_enumerate : mg "enumerate" = none
  m_int : mg "int" = none
  m_isinstance : mg "isinstance" = none
  m_len : mg "len" = none
  m_list : mg "list" = none
  m_min : mg "min" = none
  m_range : mg "range" = none
  m_reversed : mg "reversed" = none
  m_sorted : mg "sorted" = none
  m_str : mg "str" = none
  m_tuple : mg "tuple" = none
  c_NOT_SEEN : ∃ u, mg "NOT_SEEN" = some u ∧ RelV (V.str "?") u
abbrev Tx.T {K : PySem.W.Frag} {mg : Str → Option Value} (t : Tx K mg) : Tab := ⟨K, t.ca⟩
section
variable {P : Program} {w : World} {K : PySem.W.Frag} {mg : Str → Option Value} {base : Heap}
theorem sc_law_numbers : FnScope ["cell", "count", "numbers", "rest", "mixed", "k"] ["cell", "count"] (defScope (topS 17)) := ⟨rfl, rfl, rfl, by decide +kernel, rfl, by decide +kernel, by decide +kernel⟩
theorem ok_law_numbers (t : Tx K mg) : FnOk P w K mg base (L2.CX P w) 1 t.law_numbers.f t.law_numbers.fd ["cell", "count"] (spF t.T 2 F_law_numbers) := fn_ok 6 (k := 0) (mo := []) (mb := []) (body := B_law_numbers) t.law_numbers.F sc_law_numbers rfl rfl fun cdv A outer s H E hr => by
  unfold B_law_numbers
  exact (fs_cons (m1 := [2]) (fs_wo1 (mo := 2 :: rm 2 []) (mo' := [2]) (fs_setN (i := 2) sc_law_numbers.nd (fn_lst fa_nil))) (fs_cons (m1 := [2]) (fs_set' (m1 := [2]) (i := 3) sc_law_numbers.nd (fe_var 0)) (fs_cons (m1 := [2]) (fs_set' (m1 := [2]) (i := 4) sc_law_numbers.nd (fe_mod (fe_intc t.m_int (fe_add (fe_mul (fe_var 0) fe_int) fe_int)) fe_int)) (fs_cons (m1 := [2]) (fs_for hp_of rfl (fi_range1 t.m_range (fe_var 1)) (fg_name sc_law_numbers.nd (i := 5)) (fs_cons (m1 := [2]) (fs_set' (m1 := [2]) (i := 4) sc_law_numbers.nd (fe_mod (fe_intc t.m_int (fe_add (fe_add (fe_mul (fe_var 4) fe_int) (fe_mul fe_int (fe_var 5))) fe_int)) fe_int)) (fs_one (fs_if (ft_ge (fe_var 0) (fe_pow fe_int fe_int)) (fs_cons (m1 := [2]) (fs_app 2 (pe_bm PySem.F.plainAttrs_list PySem.F.slot_list_append PySem.F.type_list_append mt_append (pv 2) (L2.pa_cons (fe_mod (fe_intc t.m_int (fe_var 3)) fe_int) L2.pa_nil))) (fs_one (fs_set' (m1 := [2]) (i := 3) sc_law_numbers.nd (fe_div (fe_var 3) fe_int)))) (fs_one (fs_app 2 (pe_bm PySem.F.plainAttrs_list PySem.F.slot_list_append PySem.F.type_list_append mt_append (pv 2) (L2.pa_cons (fe_mod (fe_intc t.m_int (fe_div (fe_var 4) fe_int)) fe_int) L2.pa_nil)))))))) (fs_wi (ms := []) (fs_one (fs_ret (fe_var 2))))))))
theorem sc_law_log : FnScope ["numbers", "at", "many", "rooms", "words", "log", "k", "room"] ["numbers", "at", "many", "rooms", "words"] (defScope (topS 20)) := ⟨rfl, rfl, rfl, by decide +kernel, rfl, by decide +kernel, by decide +kernel⟩
theorem ok_law_log (t : Tx K mg) : FnOk P w K mg base (L2.CX P w) 1 t.law_log.f t.law_log.fd ["numbers", "at", "many", "rooms", "words"] (spF t.T 5 F_law_log) := fn_ok 8 (k := 0) (mo := []) (mb := []) (body := B_law_log) t.law_log.F sc_law_log rfl rfl fun cdv A outer s H E hr => by
  unfold B_law_log
  exact (fs_cons (m1 := [5]) (fs_wo1 (mo := 5 :: rm 5 []) (mo' := [5]) (fs_setN (i := 5) sc_law_log.nd (fn_lst fa_nil))) (fs_cons (m1 := [5]) (fs_for hp_of rfl (fi_range1 t.m_range (fe_var 2)) (fg_name sc_law_log.nd (i := 6)) (fs_cons (m1 := [5]) (fs_set' (m1 := [5]) (i := 7) sc_law_log.nd (fe_mod (fe_intc t.m_int (fe_ix (fe_var 0) (fe_add (fe_var 1) (fe_mul fe_int (fe_var 6))))) (fe_var 3))) (fs_one (fs_app 5 (pe_bm PySem.F.plainAttrs_list PySem.F.slot_list_append PySem.F.type_list_append mt_append (pv 5) (L2.pa_cons (fe_tup (fa_cons (fe_var 7) (fa_cons (fe_ix (fe_var 4) (fe_mod (fe_intc t.m_int (fe_ix (fe_var 0) (fe_add (fe_add (fe_var 1) (fe_mul fe_int (fe_var 6))) fe_int))) (fe_len t.m_len (fe_var 4)))) fa_nil))) L2.pa_nil)))))) (fs_wi (ms := []) (fs_one (fs_ret (fe_var 5))))))
theorem sc_law_word_of : FnScope ["log", "rooms", "word", "call"] ["log", "rooms"] (defScope (topS 22)) := ⟨rfl, rfl, rfl, by decide +kernel, rfl, by decide +kernel, by decide +kernel⟩
theorem ok_law_word_of (t : Tx K mg) : FnOk P w K mg base (L2.CX P w) 1 t.law_word_of.f t.law_word_of.fd ["log", "rooms"] (spF t.T 2 F_law_word_of) := fn_ok 4 (k := 0) (mo := []) (mb := []) (body := B_law_word_of) t.law_word_of.F sc_law_word_of rfl rfl fun cdv A outer s H E hr => by
  unfold B_law_word_of
  exact (fs_cons (m1 := []) (fs_set' (m1 := []) (i := 2) sc_law_word_of.nd fe_non) (fs_cons (m1 := []) (fs_for hp_of rfl (fi_seq (fe_var 0)) (fg_name sc_law_word_of.nd (i := 3)) (fs_one (fs_if (ft_in hr (fe_ix (fe_var 3) fe_int) (fe_var 1)) (fs_one (fs_set' (m1 := []) (i := 2) sc_law_word_of.nd (fe_ix (fe_var 3) fe_int))) fs_nil))) (fs_one (fs_ret (fe_var 2)))))
theorem sc_law_sound : FnScope ["log", "looks", "start", "end", "stretch", "look", "word", "r"] ["log", "looks", "start", "end"] (defScope (topS 27)) := ⟨rfl, rfl, rfl, by decide +kernel, rfl, by decide +kernel, by decide +kernel⟩
theorem ok_law_sound (t : Tx K mg) : FnOk P w K mg base (L2.CX P w) 2 t.law_sound.f t.law_sound.fd ["log", "looks", "start", "end"] (spF t.T 4 F_law_sound) := fn_ok 8 (k := 1) (mo := []) (mb := []) (body := B_law_sound) t.law_sound.F sc_law_sound rfl rfl fun cdv A outer s H E hr => by
  unfold B_law_sound
  exact (fs_cons (m1 := []) (fs_set' (m1 := []) (i := 4) sc_law_sound.nd (fe_new (fn_listRg2 rfl t.m_list t.m_range (fe_var 2) (fe_var 3)))) (fs_cons (m1 := []) (fs_for hp_of rfl (fi_seq (fe_var 1)) (fg_name sc_law_sound.nd (i := 5)) (fs_cons (m1 := []) (fs_set' (m1 := []) (i := 6) sc_law_sound.nd (fe_call (ok_law_word_of t) (hr.mono (by decide)) t.law_word_of.g t.law_word_of.F.kp t.law_word_of.b tk_of (fa_cons (fe_cut (fe_var 0) fo_none (fo_some (fe_ix (fe_var 5) fe_int))) (fa_cons (fe_var 4) fa_nil)))) (fs_one (fs_for hp_of rfl (fi_seq (fe_var 4)) (fg_name sc_law_sound.nd (i := 7)) (fs_one (fs_if (PW.pt (fw_and (ft_ne hr (fe_ix (fe_ix (fe_var 5) fe_int) (fe_var 7)) fe_str) (fw_one (ft_ne hr (fe_ix (fe_ix (fe_var 5) fe_int) (fe_var 7)) (fe_var 6))))) (fs_one (fs_ret fe_bl)) fs_nil)))))) (fs_one (fs_ret fe_bl))))
theorem sc_law_cuts_up_to : FnScope ["rooms", "log", "looks", "ways", "place", "found", "start", "cuts"] ["rooms", "log", "looks"] (defScope (topS 28)) := ⟨rfl, rfl, rfl, by decide +kernel, rfl, by decide +kernel, by decide +kernel⟩
theorem ok_law_cuts_up_to (t : Tx K mg) : FnOk P w K mg base (L2.CX P w) 3 t.law_cuts_up_to.f t.law_cuts_up_to.fd ["rooms", "log", "looks"] (spF t.T 3 F_law_cuts_up_to) := fn_ok 8 (k := 2) (mo := []) (mb := []) (body := B_law_cuts_up_to) t.law_cuts_up_to.F sc_law_cuts_up_to rfl rfl fun cdv A outer s H E hr => by
  unfold B_law_cuts_up_to
  exact (fs_cons (m1 := [3]) (fs_wo1 (mo := 3 :: rm 3 []) (mo' := [3]) (fs_setN (i := 3) sc_law_cuts_up_to.nd (fn_lst (fa_cons (fe_new (fn_lst (fa_cons (fe_tup fa_nil) fa_nil))) fa_nil)))) (fs_cons (m1 := [3]) (fs_for hp_of rfl (fi_range2 t.m_range fe_int (fe_add (fe_var 0) fe_int)) (fg_name sc_law_cuts_up_to.nd (i := 4)) (fs_cons (m1 := [3, 5]) (fs_wo1 (mo := 5 :: rm 5 [3]) (mo' := [3, 5]) (fs_setN (i := 5) sc_law_cuts_up_to.nd (fn_lst fa_nil))) (fs_cons (m1 := [3, 5]) (fs_for hp_of rfl (fi_range1 t.m_range (fe_var 4)) (fg_name sc_law_cuts_up_to.nd (i := 6)) (fs_one (fs_if (PW.pt (fw_and (ft_gt (fe_len t.m_len (fe_ixO 3 (fe_var 6))) fe_int) (fw_one (ft_tr (fe_call (ok_law_sound t) (hr.mono (by decide)) t.law_sound.g t.law_sound.F.kp t.law_sound.b tk_of (fa_cons (fe_var 1) (fa_cons (fe_var 2) (fa_cons (fe_var 6) (fa_cons (fe_var 4) fa_nil))))))))) (fs_one (fs_if (ft_eq hr (fe_var 6) fe_int) (fs_one (fs_app 5 (pe_bm PySem.F.plainAttrs_list PySem.F.slot_list_append PySem.F.type_list_append mt_append (pv 5) (L2.pa_cons (fe_tup fa_nil) L2.pa_nil)))) (fs_one (fs_ext 5 (pe_bm PySem.F.plainAttrs_list PySem.F.slot_list_extend PySem.F.type_list_extend mt_extend (pv 5) (L2.pa_cons (fe_new (fn_lc (own := [("cuts", 7)]) false sc_law_cuts_up_to.nd (fi_seq (fe_ixO 3 (fe_var 6))) (by show blkC ["rooms", "log", "looks", "ways", "place", "found", "start", "cuts"] (defScope (topS 28)) _ _ = true; decide +kernel) (fun _ _ _ _ _ => (fg_name sc_law_cuts_up_to.nd (i := 7))) (fun _ _ _ _ _ => fp_nil) (fun _ _ _ _ _ => (fe_add (fe_var 7) (fe_tup (fa_cons (fe_var 6) fa_nil)))))) L2.pa_nil)))))) fs_nil))) (fs_wi (ms := [3]) (fs_one (fs_app 3 (pe_bm PySem.F.plainAttrs_list PySem.F.slot_list_append PySem.F.type_list_append mt_append (pv 3) (L2.pa_cons (fe_var 5) L2.pa_nil)))))))) (fs_wi (ms := []) (fs_one (fs_ret (fe_var 3))))))
theorem sc_stretch_rooms : FnScope ["start", "end"] ["start", "end"] (defScope (topS 6)) := ⟨rfl, rfl, rfl, by decide +kernel, rfl, by decide +kernel, by decide +kernel⟩
theorem ok_stretch_rooms (t : Tx K mg) : FnOk P w K mg base (L2.CX P w) 1 t.stretch_rooms.f t.stretch_rooms.fd ["start", "end"] (spF t.T 2 F_stretch_rooms) := fn_ok 2 (k := 0) (mo := []) (mb := []) (body := B_stretch_rooms) t.stretch_rooms.F sc_stretch_rooms rfl rfl fun cdv A outer s H E hr => by
  unfold B_stretch_rooms
  exact (fs_one (fs_ret (fe_tupRg2 rfl t.m_tuple t.m_range (fe_var 0) (fe_var 1))))
theorem sc_word_of : FnScope ["log", "rooms", "room", "word"] ["log", "rooms"] (defScope (topS 1)) := ⟨rfl, rfl, rfl, by decide +kernel, rfl, by decide +kernel, by decide +kernel⟩
theorem ok_word_of (t : Tx K mg) : FnOk P w K mg base (L2.CX P w) 1 t.word_of.f t.word_of.fd ["log", "rooms"] (spF t.T 2 F_word_of) := fn_ok 4 (k := 0) (mo := []) (mb := []) (body := B_word_of) t.word_of.F sc_word_of rfl rfl fun cdv A outer s H E hr => by
  unfold B_word_of
  exact (fs_cons (m1 := []) (fs_for hp_of rfl (fi_rev t.m_reversed (fe_var 0)) (fg_tup rfl (fgs_cons (fg_name sc_word_of.nd (i := 2)) (fgs_cons (fg_name sc_word_of.nd (i := 3)) fgs_nil)) (tg_len (tg_len tg_len0))) (fs_one (fs_if (ft_in hr (fe_var 2) (fe_var 1)) (fs_one (fs_ret (fe_var 3))) fs_nil))) (fs_one (fs_ret fe_non)))
theorem sc_first_calls : FnScope ["log", "look"] ["log", "look"] (defScope (topS 3)) := ⟨rfl, rfl, rfl, by decide +kernel, rfl, by decide +kernel, by decide +kernel⟩
theorem ok_first_calls (t : Tx K mg) : FnOk P w K mg base (L2.CX P w) 1 t.first_calls.f t.first_calls.fd ["log", "look"] (spF t.T 2 F_first_calls) := fn_ok 2 (k := 0) (mo := []) (mb := []) (body := B_first_calls) t.first_calls.F sc_first_calls rfl rfl fun cdv A outer s H E hr => by
  unfold B_first_calls
  exact (fs_one (fs_ret (fe_cut (fe_var 0) fo_none (fo_some (fe_ix (fe_var 1) fe_int)))))
theorem sc_stretch_is_sound : FnScope ["log", "looks", "start", "end", "rooms", "look", "word", "room"] ["log", "looks", "start", "end"] (defScope (topS 7)) := ⟨rfl, rfl, rfl, by decide +kernel, rfl, by decide +kernel, by decide +kernel⟩
theorem ok_stretch_is_sound (t : Tx K mg) : FnOk P w K mg base (L2.CX P w) 2 t.stretch_is_sound.f t.stretch_is_sound.fd ["log", "looks", "start", "end"] (spF t.T 4 F_stretch_is_sound) := fn_ok 8 (k := 1) (mo := []) (mb := []) (body := B_stretch_is_sound) t.stretch_is_sound.F sc_stretch_is_sound rfl rfl fun cdv A outer s H E hr => by
  unfold B_stretch_is_sound
  exact (fs_cons (m1 := []) (fs_set' (m1 := []) (i := 4) sc_stretch_is_sound.nd (fe_call (ok_stretch_rooms t) (hr.mono (by decide)) t.stretch_rooms.g t.stretch_rooms.F.kp t.stretch_rooms.b tk_of (fa_cons (fe_var 2) (fa_cons (fe_var 3) fa_nil)))) (fs_cons (m1 := []) (fs_for hp_of rfl (fi_seq (fe_var 1)) (fg_name sc_stretch_is_sound.nd (i := 5)) (fs_cons (m1 := []) (fs_set' (m1 := []) (i := 6) sc_stretch_is_sound.nd (fe_call (ok_word_of t) (hr.mono (by decide)) t.word_of.g t.word_of.F.kp t.word_of.b tk_of (fa_cons (fe_call (ok_first_calls t) (hr.mono (by decide)) t.first_calls.g t.first_calls.F.kp t.first_calls.b tk_of (fa_cons (fe_var 0) (fa_cons (fe_var 5) fa_nil))) (fa_cons (fe_var 4) fa_nil)))) (fs_one (fs_for hp_of rfl (fi_seq (fe_var 4)) (fg_name sc_stretch_is_sound.nd (i := 7)) (fs_one (fs_if (PW.pt (fw_and (ft_ne hr (fe_ix (fe_ix (fe_var 5) fe_int) (fe_var 7)) (fe_gl t.c_NOT_SEEN rfl)) (fw_one (ft_ne hr (fe_ix (fe_ix (fe_var 5) fe_int) (fe_var 7)) (fe_var 6))))) (fs_one (fs_ret fe_bl)) fs_nil)))))) (fs_one (fs_ret fe_bl))))
theorem sc_sound_ends : FnScope ["rooms", "log", "looks", "ends", "start", "found", "end"] ["rooms", "log", "looks"] (defScope (topS 8)) := ⟨rfl, rfl, rfl, by decide +kernel, rfl, by decide +kernel, by decide +kernel⟩
theorem ok_sound_ends (t : Tx K mg) : FnOk P w K mg base (L2.CX P w) 3 t.sound_ends.f t.sound_ends.fd ["rooms", "log", "looks"] (spF t.T 3 F_sound_ends) := fn_ok 7 (k := 2) (mo := []) (mb := []) (body := B_sound_ends) t.sound_ends.F sc_sound_ends rfl rfl fun cdv A outer s H E hr => by
  unfold B_sound_ends
  exact (fs_cons (m1 := [3]) (fs_wo1 (mo := 3 :: rm 3 []) (mo' := [3]) (fs_setN (i := 3) sc_sound_ends.nd (fn_lst fa_nil))) (fs_cons (m1 := [3]) (fs_for hp_of rfl (fi_range1 t.m_range (fe_add (fe_var 0) fe_int)) (fg_name sc_sound_ends.nd (i := 4)) (fs_cons (m1 := [3, 5]) (fs_wo1 (mo := 5 :: rm 5 [3]) (mo' := [3, 5]) (fs_setN (i := 5) sc_sound_ends.nd (fn_lst fa_nil))) (fs_cons (m1 := [3, 5]) (fs_for hp_of rfl (fi_range2 t.m_range (fe_add (fe_var 4) fe_int) (fe_add (fe_var 0) fe_int)) (fg_name sc_sound_ends.nd (i := 6)) (fs_one (fs_if (ft_tr (fe_call (ok_stretch_is_sound t) (hr.mono (by decide)) t.stretch_is_sound.g t.stretch_is_sound.F.kp t.stretch_is_sound.b tk_of (fa_cons (fe_var 1) (fa_cons (fe_var 2) (fa_cons (fe_var 4) (fa_cons (fe_var 6) fa_nil)))))) (fs_one (fs_app 5 (pe_bm PySem.F.plainAttrs_list PySem.F.slot_list_append PySem.F.type_list_append mt_append (pv 5) (L2.pa_cons (fe_var 6) L2.pa_nil)))) fs_nil))) (fs_wi (ms := [3]) (fs_one (fs_app 3 (pe_bm PySem.F.plainAttrs_list PySem.F.slot_list_append PySem.F.type_list_append mt_append (pv 3) (L2.pa_cons (fe_var 5) L2.pa_nil)))))))) (fs_wi (ms := []) (fs_one (fs_ret (fe_var 3))))))
theorem sc_fewest_stretches : FnScope ["ends", "fewest", "start", "numbers", "end"] ["ends"] (defScope (topS 10)) := ⟨rfl, rfl, rfl, by decide +kernel, rfl, by decide +kernel, by decide +kernel⟩
theorem ok_fewest_stretches (t : Tx K mg) : FnOk P w K mg base (L2.CX P w) 1 t.fewest_stretches.f t.fewest_stretches.fd ["ends"] (spF t.T 1 F_fewest_stretches) := fn_ok 5 (k := 0) (mo := []) (mb := []) (body := B_fewest_stretches) t.fewest_stretches.F sc_fewest_stretches rfl rfl fun cdv A outer s H E hr => by
  unfold B_fewest_stretches
  exact (fs_cons (m1 := [1]) (fs_wo1 (mo := 1 :: rm 1 []) (mo' := [1]) (fs_setN (i := 1) sc_fewest_stretches.nd (fn_rep (fe_new (fn_lst (fa_cons fe_non fa_nil))) (fe_len t.m_len (fe_var 0))))) (fs_cons (m1 := [1]) (fs_put 1 fe_int (fe_neg fe_int)) (fs_cons (m1 := [1]) (fs_for hp_of rfl (fi_revRange1 t.m_reversed t.m_range (fe_minus (fe_len t.m_len (fe_var 0)) fe_int)) (fg_name sc_fewest_stretches.nd (i := 2)) (fs_cons (m1 := [1]) (fs_setLc' (m1 := [1]) (i := 3) (own := [("end", 4)]) true sc_fewest_stretches.nd (fi_seq (fe_ix (fe_var 0) (fe_var 2))) (by show blkC ["ends", "fewest", "start", "numbers", "end"] (defScope (topS 10)) _ _ = true; decide +kernel) (fun _ _ _ _ _ => (fg_name sc_fewest_stretches.nd (i := 4))) (fun _ _ _ _ _ => (fp_one (ft_notN (fe_ix (fe_var 1) (fe_var 4)) fe_non))) (fun _ _ _ _ _ => (fe_ix (fe_var 1) (fe_var 4))) (sw_true rfl rfl rfl (by decide +kernel))) (fs_one (fs_if (ft_tr (fe_var 3)) (fs_one (fs_put 1 (fe_add (fe_minL rfl hr t.m_min (fe_var 3)) fe_int) (fe_var 2))) fs_nil)))) (fs_wi (ms := []) (fs_one (fs_ret (fe_var 1)))))))
theorem sc_first_end : FnScope ["ends", "fewest", "start", "end"] ["ends", "fewest", "start"] (defScope (topS 11)) := ⟨rfl, rfl, rfl, by decide +kernel, rfl, by decide +kernel, by decide +kernel⟩
theorem ok_first_end (t : Tx K mg) : FnOk P w K mg base (L2.CX P w) 1 t.first_end.f t.first_end.fd ["ends", "fewest", "start"] (spF t.T 3 F_first_end) := fn_ok 4 (k := 0) (mo := []) (mb := []) (body := B_first_end) t.first_end.F sc_first_end rfl rfl fun cdv A outer s H E hr => by
  unfold B_first_end
  exact (fs_one (fs_ret (fe_minL rfl hr t.m_min (fe_new (fn_lc (own := [("end", 3)]) false sc_first_end.nd (fi_seq (fe_ix (fe_var 0) (fe_var 2))) (by show blkC ["ends", "fewest", "start", "end"] (defScope (topS 11)) _ _ = true; decide +kernel) (fun _ _ _ _ _ => (fg_name sc_first_end.nd (i := 3))) (fun _ _ _ _ _ => (fp_one (ft_eq hr (fe_ix (fe_var 1) (fe_var 3)) (fe_minus (fe_ix (fe_var 1) (fe_var 2)) fe_int)))) (fun _ _ _ _ _ => (fe_var 3)))))))
theorem sc_fewest_cuts : FnScope ["ends", "fewest", "cuts", "place"] ["ends", "fewest"] (defScope (topS 12)) := ⟨rfl, rfl, rfl, by decide +kernel, rfl, by decide +kernel, by decide +kernel⟩
theorem ok_fewest_cuts (t : Tx K mg) : FnOk P w K mg base (L2.CX P w) 2 t.fewest_cuts.f t.fewest_cuts.fd ["ends", "fewest"] (spF t.T 2 F_fewest_cuts) := fn_ok 4 (k := 1) (mo := []) (mb := []) (body := B_fewest_cuts) t.fewest_cuts.F sc_fewest_cuts rfl rfl fun cdv A outer s H E hr => by
  unfold B_fewest_cuts
  exact (fs_cons (m1 := [2]) (fs_wo1 (mo := 2 :: rm 2 []) (mo' := [2]) (fs_setN (i := 2) sc_fewest_cuts.nd (fn_lst fa_nil))) (fs_cons (m1 := [2]) (fs_set' (m1 := [2]) (i := 3) sc_fewest_cuts.nd fe_int) (fs_cons (m1 := [2]) (fs_while hp_of (ft_gt (fe_ix (fe_var 1) (fe_var 3)) fe_int) (fs_cons (m1 := [2]) (fs_set' (m1 := [2]) (i := 3) sc_fewest_cuts.nd (fe_call (ok_first_end t) (hr.mono (by decide)) t.first_end.g t.first_end.F.kp t.first_end.b tk_of (fa_cons (fe_var 0) (fa_cons (fe_var 1) (fa_cons (fe_var 3) fa_nil))))) (fs_one (fs_app 2 (pe_bm PySem.F.plainAttrs_list PySem.F.slot_list_append PySem.F.type_list_append mt_append (pv 2) (L2.pa_cons (fe_var 3) L2.pa_nil)))))) (fs_wi (ms := []) (fs_one (fs_ret (fe_tuple t.m_tuple (fe_var 2))))))))
theorem sc_ways_from_start : FnScope ["ends", "ways", "start", "found", "end"] ["ends"] (defScope (topS 9)) := ⟨rfl, rfl, rfl, by decide +kernel, rfl, by decide +kernel, by decide +kernel⟩
theorem ok_ways_from_start (t : Tx K mg) : FnOk P w K mg base (L2.CX P w) 1 t.ways_from_start.f t.ways_from_start.fd ["ends"] (spF t.T 1 F_ways_from_start) := fn_ok 5 (k := 0) (mo := []) (mb := []) (body := B_ways_from_start) t.ways_from_start.F sc_ways_from_start rfl rfl fun cdv A outer s H E hr => by
  unfold B_ways_from_start
  exact (fs_cons (m1 := [1]) (fs_wo1 (mo := 1 :: rm 1 []) (mo' := [1]) (fs_setN (i := 1) sc_ways_from_start.nd (fn_rep (fe_new (fn_lst (fa_cons fe_int fa_nil))) (fe_len t.m_len (fe_var 0))))) (fs_cons (m1 := [1]) (fs_put 1 fe_int fe_int) (fs_cons (m1 := [1]) (fs_for hp_of rfl (fi_enum t.m_enumerate (fe_var 0)) (fg_tup rfl (fgs_cons (fg_name sc_ways_from_start.nd (i := 2)) (fgs_cons (fg_name sc_ways_from_start.nd (i := 3)) fgs_nil)) (tg_len (tg_len tg_len0))) (fs_one (fs_for hp_of rfl (fi_seq (fe_var 3)) (fg_name sc_ways_from_start.nd (i := 4)) (fs_one (fs_put 1 (fe_add (fe_ixO 1 (fe_var 4)) (fe_ixO 1 (fe_var 2))) (fe_var 4)))))) (fs_wi (ms := []) (fs_one (fs_ret (fe_var 1)))))))
theorem sc_reachable_places : FnScope ["ends", "ways", "place"] ["ends"] (defScope (topS 13)) := ⟨rfl, rfl, rfl, by decide +kernel, rfl, by decide +kernel, by decide +kernel⟩
theorem ok_reachable_places (t : Tx K mg) : FnOk P w K mg base (L2.CX P w) 2 t.reachable_places.f t.reachable_places.fd ["ends"] (spF t.T 1 F_reachable_places) := fn_ok 3 (k := 1) (mo := []) (mb := []) (body := B_reachable_places) t.reachable_places.F sc_reachable_places rfl rfl fun cdv A outer s H E hr => by
  unfold B_reachable_places
  exact (fs_cons (m1 := []) (fs_set' (m1 := []) (i := 1) sc_reachable_places.nd (fe_call (ok_ways_from_start t) (hr.mono (by decide)) t.ways_from_start.g t.ways_from_start.F.kp t.ways_from_start.b tk_of (fa_cons (fe_var 0) fa_nil))) (fs_one (fs_ret (fe_tuple t.m_tuple (fe_new (fn_lc (own := [("place", 2)]) false sc_reachable_places.nd (fi_range1 t.m_range (fe_len t.m_len (fe_var 0))) (by show blkC ["ends", "ways", "place"] (defScope (topS 13)) _ _ = true; decide +kernel) (fun _ _ _ _ _ => (fg_name sc_reachable_places.nd (i := 2))) (fun _ _ _ _ _ => (fp_one (ft_gt (fe_ix (fe_var 1) (fe_var 2)) fe_int))) (fun _ _ _ _ _ => (fe_var 2))))))))
theorem sc_cuts_answer : FnScope ["rooms", "log", "looks", "ends", "fewest"] ["rooms", "log", "looks"] (defScope (topS 14)) := ⟨rfl, rfl, rfl, by decide +kernel, rfl, by decide +kernel, by decide +kernel⟩
theorem ok_cuts_answer (t : Tx K mg) : FnOk P w K mg base (L2.CX P w) 4 t.cuts_answer.f t.cuts_answer.fd ["rooms", "log", "looks"] (spF t.T 3 F_cuts_answer) := fn_ok 5 (k := 3) (mo := []) (mb := []) (body := B_cuts_answer) t.cuts_answer.F sc_cuts_answer rfl rfl fun cdv A outer s H E hr => by
  unfold B_cuts_answer
  exact (fs_cons (m1 := []) (fs_set' (m1 := []) (i := 3) sc_cuts_answer.nd (fe_call (ok_sound_ends t) (hr.mono (by decide)) t.sound_ends.g t.sound_ends.F.kp t.sound_ends.b tk_of (fa_cons (fe_var 0) (fa_cons (fe_var 1) (fa_cons (fe_var 2) fa_nil))))) (fs_cons (m1 := []) (fs_set' (m1 := []) (i := 4) sc_cuts_answer.nd (fe_call (ok_fewest_stretches t) (hr.mono (by decide)) t.fewest_stretches.g t.fewest_stretches.F.kp t.fewest_stretches.b tk_of (fa_cons (fe_var 3) fa_nil))) (fs_cons (m1 := []) (fs_if (ft_isN (fe_ix (fe_var 4) fe_int) fe_non) (fs_one (fs_ret (fe_tup (fa_cons fe_str (fa_cons (fe_call (ok_reachable_places t) (hr.mono (by decide)) t.reachable_places.g t.reachable_places.F.kp t.reachable_places.b tk_of (fa_cons (fe_var 3) fa_nil)) fa_nil))))) fs_nil) (fs_one (fs_ret (fe_tup (fa_cons fe_str (fa_cons (fe_call (ok_fewest_cuts t) (hr.mono (by decide)) t.fewest_cuts.g t.fewest_cuts.F.kp t.fewest_cuts.b tk_of (fa_cons (fe_var 3) (fa_cons (fe_var 4) fa_nil))) fa_nil))))))))
theorem sc_law_same : FnScope ["got", "due", "k"] ["got", "due"] (defScope (topS 24)) := ⟨rfl, rfl, rfl, by decide +kernel, rfl, by decide +kernel, by decide +kernel⟩
theorem ok_law_same (t : Tx K mg) : ∀ n : Nat, FnOk P w K mg base (L2.CX P w) (1 + n) t.law_same.f t.law_same.fd ["got", "due"] (spF t.T 2 (F_law_same n))
  | 0 => fn_bad fun _ => rfl
  | n + 1 => fn_ok 3 (k := 1 + n) (mo := []) (mb := []) (body := B_law_same (F_law_same n)) t.law_same.F sc_law_same rfl rfl fun cdv A outer s H E hr => by
    have ih := ok_law_same t n
    unfold B_law_same
    exact (fs_cons (m1 := []) (fs_if (ft_isN (fe_var 1) fe_non) (fs_one (fs_ret (fe_isN (fe_var 0) fe_non))) fs_nil) (fs_cons (m1 := []) (fs_if (ft_isB (fe_var 1) fe_bl) (fs_one (fs_ret (fe_isB (fe_var 0) fe_bl))) fs_nil) (fs_cons (m1 := []) (fs_if (ft_isB (fe_var 1) fe_bl) (fs_one (fs_ret (fe_isB (fe_var 0) fe_bl))) fs_nil) (fs_cons (m1 := []) (fs_if (ft_tr (fe_isI t.m_isinstance t.m_int (by decide +kernel) (fe_var 1))) (fs_one (fs_ret (fe_and (fe_isI t.m_isinstance t.m_int (by decide +kernel) (fe_var 0)) (fe_and (fe_not (fe_isI t.m_isinstance t.m_bool (by decide +kernel) (fe_var 0))) (fe_one (fe_eq hr (fe_var 0) (fe_var 1))))))) fs_nil) (fs_cons (m1 := []) (fs_if (ft_tr (fe_isI t.m_isinstance t.m_str (by decide +kernel) (fe_var 1))) (fs_one (fs_ret (fe_and (fe_isI t.m_isinstance t.m_str (by decide +kernel) (fe_var 0)) (fe_one (fe_eq hr (fe_var 0) (fe_var 1)))))) fs_nil) (fs_cons (m1 := []) (fs_if (PW.pt (fw_and (ft_tr (fe_isI t.m_isinstance t.m_list (by decide +kernel) (fe_var 1))) (fw_one (ft_not (ft_tr (fe_isI t.m_isinstance t.m_list (by decide +kernel) (fe_var 0))))))) (fs_one (fs_ret fe_bl)) fs_nil) (fs_cons (m1 := []) (fs_if (PW.pt (fw_and (ft_tr (fe_isI t.m_isinstance t.m_tuple (by decide +kernel) (fe_var 1))) (fw_one (ft_not (ft_tr (fe_isI t.m_isinstance t.m_tuple (by decide +kernel) (fe_var 0))))))) (fs_one (fs_ret fe_bl)) fs_nil) (fs_cons (m1 := []) (fs_if (ft_ne hr (fe_len t.m_len (fe_var 0)) (fe_len t.m_len (fe_var 1))) (fs_one (fs_ret fe_bl)) fs_nil) (fs_cons (m1 := []) (fs_for hp_of rfl (fi_range1 t.m_range (fe_len t.m_len (fe_var 1))) (fg_name sc_law_same.nd (i := 2)) (fs_one (fs_if (ft_not (ft_tr (fe_call ih hr t.law_same.g t.law_same.F.kp t.law_same.b tk_of (fa_cons (fe_ix (fe_var 0) (fe_var 2)) (fa_cons (fe_ix (fe_var 1) (fe_var 2)) fa_nil))))) (fs_one (fs_ret fe_bl)) fs_nil))) (fs_one (fs_ret fe_bl)))))))))))
theorem sc_law_cell : FnScope ["script", "k"] ["script", "k"] (defScope (topS 16)) := ⟨rfl, rfl, rfl, by decide +kernel, rfl, by decide +kernel, by decide +kernel⟩
theorem ok_law_cell (t : Tx K mg) : FnOk P w K mg base (L2.CX P w) 1 t.law_cell.f t.law_cell.fd ["script", "k"] (spF t.T 2 F_law_cell) := fn_ok 2 (k := 0) (mo := []) (mb := []) (body := B_law_cell) t.law_cell.F sc_law_cell rfl rfl fun cdv A outer s H E hr => by
  unfold B_law_cell
  exact (fs_cons (m1 := []) (fs_if (ft_lt (fe_var 1) (fe_len t.m_len (fe_var 0))) (fs_one (fs_ret (fe_abs t.m_abs (fe_intc t.m_int (fe_ix (fe_var 0) (fe_var 1)))))) fs_nil) (fs_one (fs_ret fe_int)))
theorem sc_law_word : FnScope ["a", "b", "letters", "word", "k"] ["a", "b"] (defScope (topS 18)) := ⟨rfl, rfl, rfl, by decide +kernel, rfl, by decide +kernel, by decide +kernel⟩
theorem ok_law_word (t : Tx K mg) : FnOk P w K mg base (L2.CX P w) 1 t.law_word.f t.law_word.fd ["a", "b"] (spF t.T 2 F_law_word) := fn_ok 5 (k := 0) (mo := []) (mb := []) (body := B_law_word) t.law_word.F sc_law_word rfl rfl fun cdv A outer s H E hr => by
  unfold B_law_word
  exact (fs_cons (m1 := []) (fs_set' (m1 := []) (i := 2) sc_law_word.nd fe_str) (fs_cons (m1 := []) (fs_set' (m1 := []) (i := 3) sc_law_word.nd fe_str) (fs_cons (m1 := []) (fs_for hp_of rfl (fi_range1 t.m_range (fe_add fe_int (fe_mod (fe_intc t.m_int (fe_var 0)) fe_int))) (fg_name sc_law_word.nd (i := 4)) (fs_one (fs_set' (m1 := []) (i := 3) sc_law_word.nd (fe_add (fe_var 3) (fe_ix (fe_var 2) (fe_mod (fe_intc t.m_int (fe_add (fe_var 1) (fe_mul (fe_var 4) (fe_div (fe_var 0) fe_int)))) fe_int)))))) (fs_one (fs_ret (fe_var 3))))))
theorem sc_law_words : FnScope ["numbers", "at", "many", "words", "k", "place", "letter"] ["numbers", "at", "many"] (defScope (topS 19)) := ⟨rfl, rfl, rfl, by decide +kernel, rfl, by decide +kernel, by decide +kernel⟩
theorem ok_law_words (t : Tx K mg) : FnOk P w K mg base (L2.CX P w) 2 t.law_words.f t.law_words.fd ["numbers", "at", "many"] (spF t.T 3 F_law_words) := fn_ok 7 (k := 1) (mo := []) (mb := []) (body := B_law_words) t.law_words.F sc_law_words rfl rfl fun cdv A outer s H E hr => by
  unfold B_law_words
  exact (fs_cons (m1 := [3]) (fs_setLc' (m1 := [3]) (i := 3) (own := [("k", 4)]) false sc_law_words.nd (fi_range1 t.m_range (fe_var 2)) (by show blkC ["numbers", "at", "many", "words", "k", "place", "letter"] (defScope (topS 19)) _ _ = true; decide +kernel) (fun _ _ _ _ _ => (fg_name sc_law_words.nd (i := 4))) (fun _ _ _ _ _ => fp_nil) (fun _ _ _ _ _ => (fe_call (ok_law_word t) (hr.mono (by decide)) t.law_word.g t.law_word.F.kp t.law_word.b tk0 (fa_cons (fe_ix (fe_var 0) (fe_add (fe_var 1) (fe_mul fe_int (fe_var 4)))) (fa_cons (fe_ix (fe_var 0) (fe_add (fe_add (fe_var 1) (fe_mul fe_int (fe_var 4))) fe_int)) fa_nil)))) (sw_true rfl rfl rfl (by decide +kernel))) (fs_cons (m1 := [3]) (fs_if (ft_eq hr (fe_mod (fe_div (fe_intc t.m_int (fe_ix (fe_var 0) (fe_var 1))) fe_int) fe_int) fe_int) (fs_one (fs_for hp_of rfl (fi_range2 t.m_range fe_int (fe_var 2)) (fg_name sc_law_words.nd (i := 4)) (fs_cons (m1 := [3]) (fs_set' (m1 := [3]) (i := 5) sc_law_words.nd (fe_mod (fe_intc t.m_int (fe_ix (fe_var 0) (fe_add (fe_var 1) (fe_mul fe_int (fe_var 4))))) (fe_len t.m_len (fe_ixO 3 fe_int)))) (fs_cons (m1 := [3]) (fs_set' (m1 := [3]) (i := 6) sc_law_words.nd (fe_ix fe_str (fe_mod (fe_intc t.m_int (fe_ix (fe_var 0) (fe_add (fe_add (fe_var 1) (fe_mul fe_int (fe_var 4))) fe_int))) fe_int))) (fs_one (fs_put 3 (fe_add (fe_add (fe_cut (fe_ixO 3 fe_int) fo_none (fo_some (fe_var 5))) (fe_var 6)) (fe_cut (fe_ixO 3 fe_int) (fo_some (fe_add (fe_var 5) fe_int)) fo_none)) (fe_var 4))))))) fs_nil) (fs_wi (ms := []) (fs_one (fs_ret (fe_var 3))))))
theorem sc_law_reach : FnScope ["doors", "start", "inside", "found", "k", "before", "a", "b"] ["doors", "start", "inside"] (defScope (topS 21)) := ⟨rfl, rfl, rfl, by decide +kernel, rfl, by decide +kernel, by decide +kernel⟩
theorem ok_law_reach (t : Tx K mg) : FnOk P w K mg base (L2.CX P w) 1 t.law_reach.f t.law_reach.fd ["doors", "start", "inside"] (spF t.T 3 F_law_reach) := fn_ok 8 (k := 0) (mo := []) (mb := []) (body := B_law_reach) t.law_reach.F sc_law_reach rfl rfl fun cdv A outer s H E hr => by
  unfold B_law_reach
  exact (fs_cons (m1 := [3]) (fs_wo1 (mo := 3 :: rm 3 []) (mo' := [3]) (fs_setN (i := 3) sc_law_reach.nd (fn_lst fa_nil))) (fs_cons (m1 := [3]) (fs_if (ft_in hr (fe_var 1) (fe_var 2)) (fs_one (fs_app 3 (pe_bm PySem.F.plainAttrs_list PySem.F.slot_list_append PySem.F.type_list_append mt_append (pv 3) (L2.pa_cons (fe_var 1) L2.pa_nil)))) fs_nil) (fs_cons (m1 := [3]) (fs_for hp_of rfl (fi_range1 t.m_range (fe_len t.m_len (fe_var 2))) (fg_name sc_law_reach.nd (i := 4)) (fs_cons (m1 := [3]) (fs_set' (m1 := [3]) (i := 5) sc_law_reach.nd (fe_borrow (fe_len t.m_len (fe_var 3)))) (fs_cons (m1 := [3]) (fs_for hp_of rfl (fi_seq (fe_var 0)) (fg_tup rfl (fgs_cons (fg_name sc_law_reach.nd (i := 6)) (fgs_cons (fg_name sc_law_reach.nd (i := 7)) fgs_nil)) (tg_len (tg_len tg_len0))) (fs_cons (m1 := [3]) (fs_if (PW.pt (fw_and (ft_borrow (ft_in hr (fe_var 6) (fe_var 3))) (fw_and (ft_in hr (fe_var 7) (fe_var 2)) (fw_one (ft_borrow (ft_notIn hr (fe_var 7) (fe_var 3))))))) (fs_one (fs_app 3 (pe_bm PySem.F.plainAttrs_list PySem.F.slot_list_append PySem.F.type_list_append mt_append (pv 3) (L2.pa_cons (fe_var 7) L2.pa_nil)))) fs_nil) (fs_one (fs_if (PW.pt (fw_and (ft_borrow (ft_in hr (fe_var 7) (fe_var 3))) (fw_and (ft_in hr (fe_var 6) (fe_var 2)) (fw_one (ft_borrow (ft_notIn hr (fe_var 6) (fe_var 3))))))) (fs_one (fs_app 3 (pe_bm PySem.F.plainAttrs_list PySem.F.slot_list_append PySem.F.type_list_append mt_append (pv 3) (L2.pa_cons (fe_var 6) L2.pa_nil)))) fs_nil)))) (fs_one (fs_if (ft_eq hr (fe_borrow (fe_len t.m_len (fe_var 3))) (fe_var 5)) (fs_one (fs_break' (ms := [3]) (mb := [3]))) fs_nil))))) (fs_wi (ms := []) (fs_one (fs_ret (fe_new (fn_sorted hr t.m_sorted (fe_var 3)))))))))
theorem sc_law_hear : FnScope ["rooms", "log", "opening", "words", "call", "r"] ["rooms", "log", "opening"] (defScope (topS 23)) := ⟨rfl, rfl, rfl, by decide +kernel, rfl, by decide +kernel, by decide +kernel⟩
theorem ok_law_hear (t : Tx K mg) : FnOk P w K mg base (L2.CX P w) 2 t.law_hear.f t.law_hear.fd ["rooms", "log", "opening"] (spF t.T 3 F_law_hear) := fn_ok 6 (k := 1) (mo := []) (mb := []) (body := B_law_hear) t.law_hear.F sc_law_hear rfl rfl fun cdv A outer s H E hr => by
  unfold B_law_hear
  exact (fs_cons (m1 := [3]) (fs_setLc' (m1 := [3]) (i := 3) (own := [("r", 5)]) false sc_law_hear.nd (fi_range1 t.m_range (fe_var 0)) (by show blkC ["rooms", "log", "opening", "words", "call", "r"] (defScope (topS 23)) _ _ = true; decide +kernel) (fun _ _ _ _ _ => (fg_name sc_law_hear.nd (i := 5))) (fun _ _ _ _ _ => fp_nil) (fun _ _ _ _ _ => fe_non) (sw_true rfl rfl rfl (by decide +kernel))) (fs_cons (m1 := [3]) (fs_for hp_of rfl (fi_seq (fe_var 1)) (fg_name sc_law_hear.nd (i := 4)) (fs_one (fs_for hp_of rfl (fi_seq (fe_call (ok_law_reach t) (hr.mono (by decide)) t.law_reach.g t.law_reach.F.kp t.law_reach.b tk_of (fa_cons (fe_var 2) (fa_cons (fe_ix (fe_var 4) fe_int) (fa_cons (fe_new (fn_listRg1 rfl t.m_list t.m_range (fe_var 0))) fa_nil))))) (fg_name sc_law_hear.nd (i := 5)) (fs_one (fs_put 3 (fe_ix (fe_var 4) fe_int) (fe_var 5)))))) (fs_wi (ms := []) (fs_one (fs_ret (fe_var 3))))))
theorem sc_law_pick : FnScope ["pool", "number", "pick"] ["pool", "number"] (defScope (topS 25)) := ⟨rfl, rfl, rfl, by decide +kernel, rfl, by decide +kernel, by decide +kernel⟩
theorem ok_law_pick (t : Tx K mg) : FnOk P w K mg base (L2.CX P w) 1 t.law_pick.f t.law_pick.fd ["pool", "number"] (spF t.T 2 F_law_pick) := fn_ok 3 (k := 0) (mo := []) (mb := []) (body := B_law_pick) t.law_pick.F sc_law_pick rfl rfl fun cdv A outer s H E hr => by
  unfold B_law_pick
  exact (fs_cons (m1 := []) (fs_set' (m1 := []) (i := 2) sc_law_pick.nd (fe_mod (fe_intc t.m_int (fe_var 1)) (fe_add (fe_len t.m_len (fe_var 0)) fe_int))) (fs_cons (m1 := []) (fs_if (ft_eq hr (fe_var 2) (fe_len t.m_len (fe_var 0))) (fs_one (fs_ret fe_non)) fs_nil) (fs_one (fs_ret (fe_ix (fe_var 0) (fe_var 2))))))
theorem sc_law_partial_look : FnScope ["numbers", "rooms", "log", "hidden", "words", "count", "heard", "way", "seen", "r", "number", "entry"] ["numbers", "rooms", "log", "hidden", "words"] (defScope (topS 26)) := ⟨rfl, rfl, rfl, by decide +kernel, rfl, by decide +kernel, by decide +kernel⟩
theorem ok_law_partial_look (t : Tx K mg) : FnOk P w K mg base (L2.CX P w) 3 t.law_partial_look.f t.law_partial_look.fd ["numbers", "rooms", "log", "hidden", "words"] (spF t.T 5 F_law_partial_look) := fn_ok 12 (k := 2) (mo := []) (mb := []) (body := B_law_partial_look) t.law_partial_look.F sc_law_partial_look rfl rfl fun cdv A outer s H E hr => by
  unfold B_law_partial_look
  exact (fs_cons (m1 := []) (fs_set' (m1 := []) (i := 5) sc_law_partial_look.nd (fe_mod (fe_intc t.m_int (fe_ix (fe_var 0) fe_int)) (fe_add (fe_len t.m_len (fe_var 2)) fe_int))) (fs_cons (m1 := []) (fs_set' (m1 := []) (i := 6) sc_law_partial_look.nd (fe_call (ok_law_hear t) (hr.mono (by decide)) t.law_hear.g t.law_hear.F.kp t.law_hear.b tk_of (fa_cons (fe_var 1) (fa_cons (fe_cut (fe_var 2) fo_none (fo_some (fe_var 5))) (fa_cons (fe_var 3) fa_nil))))) (fs_cons (m1 := []) (fs_set' (m1 := []) (i := 7) sc_law_partial_look.nd (fe_mod (fe_intc t.m_int (fe_ix (fe_var 0) fe_int)) fe_int)) (fs_cons (m1 := [8]) (fs_wo1 (mo := 8 :: rm 8 []) (mo' := [8]) (fs_setN (i := 8) sc_law_partial_look.nd (fn_lst fa_nil))) (fs_cons (m1 := [8]) (fs_for hp_of rfl (fi_range1 t.m_range (fe_var 1)) (fg_name sc_law_partial_look.nd (i := 9)) (fs_cons (m1 := [8]) (fs_set' (m1 := [8]) (i := 10) sc_law_partial_look.nd (fe_intc t.m_int (fe_ix (fe_var 0) (fe_add fe_int (fe_var 9))))) (fs_cons (m1 := [8]) (fs_set' (m1 := [8]) (i := 11) sc_law_partial_look.nd (fe_ix (fe_var 6) (fe_var 9))) (fs_cons (m1 := [8]) (fs_if (PW.pt (fw_and (ft_eq hr (fe_var 7) fe_int) (fw_one (ft_eq hr (fe_mod (fe_var 10) fe_int) fe_int)))) (fs_one (fs_set' (m1 := [8]) (i := 11) sc_law_partial_look.nd (fe_call (ok_law_pick t) (hr.mono (by decide)) t.law_pick.g t.law_pick.F.kp t.law_pick.b tk_of (fa_cons (fe_var 4) (fa_cons (fe_div (fe_var 10) fe_int) fa_nil))))) fs_nil) (fs_cons (m1 := [8]) (fs_if (ft_eq hr (fe_var 7) fe_int) (fs_one (fs_set' (m1 := [8]) (i := 11) sc_law_partial_look.nd (fe_call (ok_law_pick t) (hr.mono (by decide)) t.law_pick.g t.law_pick.F.kp t.law_pick.b tk_of (fa_cons (fe_var 4) (fa_cons (fe_div (fe_var 10) fe_int) fa_nil))))) fs_nil) (fs_cons (m1 := [8]) (fs_if (ft_eq hr (fe_mod (fe_var 10) fe_int) fe_int) (fs_one (fs_set' (m1 := [8]) (i := 11) sc_law_partial_look.nd fe_str)) fs_nil) (fs_one (fs_app 8 (pe_bm PySem.F.plainAttrs_list PySem.F.slot_list_append PySem.F.type_list_append mt_append (pv 8) (L2.pa_cons (fe_var 11) L2.pa_nil)))))))))) (fs_wi (ms := []) (fs_one (fs_ret (fe_tup (fa_cons (fe_var 5) (fa_cons (fe_var 8) fa_nil)))))))))))
theorem sc_law_seen_so : FnScope ["rooms", "log", "looks", "cuts", "opening", "look", "heard", "r", "p"] ["rooms", "log", "looks", "cuts"] (defScope (topS 29)) := ⟨rfl, rfl, rfl, by decide +kernel, rfl, by decide +kernel, by decide +kernel⟩
theorem ok_law_seen_so (t : Tx K mg) : FnOk P w K mg base (L2.CX P w) 3 t.law_seen_so.f t.law_seen_so.fd ["rooms", "log", "looks", "cuts"] (spF t.T 4 F_law_seen_so) := fn_ok 9 (k := 2) (mo := []) (mb := []) (body := B_law_seen_so) t.law_seen_so.F sc_law_seen_so rfl rfl fun cdv A outer s H E hr => by
  unfold B_law_seen_so
  exact (fs_cons (m1 := []) (fs_setLc' (m1 := []) (i := 4) (own := [("p", 8)]) false sc_law_seen_so.nd (fi_range2 t.m_range fe_int (fe_var 0)) (by show blkC ["rooms", "log", "looks", "cuts", "opening", "look", "heard", "r", "p"] (defScope (topS 29)) _ _ = true; decide +kernel) (fun _ _ _ _ _ => (fg_name sc_law_seen_so.nd (i := 8))) (fun _ _ _ _ _ => (fp_one (ft_notIn hr (fe_var 8) (fe_var 3)))) (fun _ _ _ _ _ => (fe_tup (fa_cons (fe_minus (fe_var 8) fe_int) (fa_cons (fe_var 8) fa_nil)))) (sw_true rfl rfl rfl (by decide +kernel))) (fs_cons (m1 := []) (fs_for hp_of rfl (fi_seq (fe_var 2)) (fg_name sc_law_seen_so.nd (i := 5)) (fs_cons (m1 := []) (fs_set' (m1 := []) (i := 6) sc_law_seen_so.nd (fe_call (ok_law_hear t) (hr.mono (by decide)) t.law_hear.g t.law_hear.F.kp t.law_hear.b tk_of (fa_cons (fe_var 0) (fa_cons (fe_cut (fe_var 1) fo_none (fo_some (fe_ix (fe_var 5) fe_int))) (fa_cons (fe_var 4) fa_nil))))) (fs_one (fs_for hp_of rfl (fi_range1 t.m_range (fe_var 0)) (fg_name sc_law_seen_so.nd (i := 7)) (fs_one (fs_if (PW.pt (fw_and (ft_ne hr (fe_ix (fe_ix (fe_var 5) fe_int) (fe_var 7)) fe_str) (fw_one (ft_ne hr (fe_ix (fe_ix (fe_var 5) fe_int) (fe_var 7)) (fe_ix (fe_var 6) (fe_var 7)))))) (fs_one (fs_ret fe_bl)) fs_nil)))))) (fs_one (fs_ret fe_bl))))
theorem sc_law_k63 : FnScope ["script", "n", "m", "rooms", "words", "log", "hidden", "many", "looks", "k", "ways", "due", "handed", "answer", "numbers", "p", "look", "place", "cuts"] ["script"] (defScope (topS 30)) := ⟨rfl, rfl, rfl, by decide +kernel, rfl, by decide +kernel, by decide +kernel⟩
theorem ok_law_k63 (t : Tx K mg) : FnOk P w K mg base (L2.CX P w) 14 t.law.f t.law.fd ["script"] (spF t.T 1 F_law_k63) := fn_ok 19 (k := 13) (mo := []) (mb := []) (body := B_law_k63) t.law.F sc_law_k63 rfl rfl fun cdv A outer s H E hr => by
  unfold B_law_k63
  exact (fs_cons (m1 := []) (fs_set' (m1 := []) (i := 1) sc_law_k63.nd (fe_call (ok_law_numbers t) (hr.mono (by decide)) t.law_numbers.g t.law_numbers.F.kp t.law_numbers.b tk_of (fa_cons (fe_call (ok_law_cell t) (hr.mono (by decide)) t.law_cell.g t.law_cell.F.kp t.law_cell.b tk_of (fa_cons (fe_var 0) (fa_cons fe_int fa_nil))) (fa_cons fe_int fa_nil)))) (fs_cons (m1 := []) (fs_set' (m1 := []) (i := 2) sc_law_k63.nd (fe_call (ok_law_numbers t) (hr.mono (by decide)) t.law_numbers.g t.law_numbers.F.kp t.law_numbers.b tk_of (fa_cons (fe_call (ok_law_cell t) (hr.mono (by decide)) t.law_cell.g t.law_cell.F.kp t.law_cell.b tk_of (fa_cons (fe_var 0) (fa_cons fe_int fa_nil))) (fa_cons fe_int fa_nil)))) (fs_cons (m1 := []) (fs_set' (m1 := []) (i := 3) sc_law_k63.nd (fe_add fe_int (fe_mod (fe_intc t.m_int (fe_ix (fe_var 1) fe_int)) fe_int))) (fs_cons (m1 := []) (fs_set' (m1 := []) (i := 4) sc_law_k63.nd (fe_cut (fe_call (ok_law_words t) (hr.mono (by decide)) t.law_words.g t.law_words.F.kp t.law_words.b tk_of (fa_cons (fe_var 2) (fa_cons fe_int (fa_cons fe_int fa_nil)))) fo_none (fo_some (fe_add fe_int (fe_mod (fe_intc t.m_int (fe_ix (fe_var 2) fe_int)) fe_int))))) (fs_cons (m1 := []) (fs_set' (m1 := []) (i := 5) sc_law_k63.nd (fe_call (ok_law_log t) (hr.mono (by decide)) t.law_log.g t.law_log.F.kp t.law_log.b tk_of (fa_cons (fe_var 2) (fa_cons fe_int (fa_cons (fe_mod (fe_intc t.m_int (fe_ix (fe_var 2) fe_int)) fe_int) (fa_cons (fe_var 3) (fa_cons (fe_var 4) fa_nil))))))) (fs_cons (m1 := []) (fs_setLc' (m1 := []) (i := 6) (own := [("p", 15)]) false sc_law_k63.nd (fi_range2 t.m_range fe_int (fe_var 3)) (by show blkC ["script", "n", "m", "rooms", "words", "log", "hidden", "many", "looks", "k", "ways", "due", "handed", "answer", "numbers", "p", "look", "place", "cuts"] (defScope (topS 30)) _ _ = true; decide +kernel) (fun _ _ _ _ _ => (fg_name sc_law_k63.nd (i := 15))) (fun _ _ _ _ _ => (fp_one (ft_eq hr (fe_mod (fe_intc t.m_int (fe_ix (fe_var 1) (fe_add fe_int (fe_var 15)))) fe_int) fe_int))) (fun _ _ _ _ _ => (fe_tup (fa_cons (fe_minus (fe_var 15) fe_int) (fa_cons (fe_var 15) fa_nil)))) (sw_true rfl rfl rfl (by decide +kernel))) (fs_cons (m1 := []) (fs_set' (m1 := []) (i := 7) sc_law_k63.nd (fe_mod (fe_intc t.m_int (fe_ix (fe_var 1) fe_int)) fe_int)) (fs_cons (m1 := []) (fs_if (ft_eq hr (fe_mod (fe_intc t.m_int (fe_ix (fe_var 1) fe_int)) fe_int) fe_int) (fs_one (fs_set' (m1 := []) (i := 7) sc_law_k63.nd (fe_add (fe_var 7) fe_int))) fs_nil) (fs_cons (m1 := [8]) (fs_wo1 (mo := 8 :: rm 8 []) (mo' := [8]) (fs_setN (i := 8) sc_law_k63.nd (fn_lst fa_nil))) (fs_cons (m1 := [8]) (fs_for hp_of rfl (fi_range1 t.m_range (fe_var 7)) (fg_name sc_law_k63.nd (i := 9)) (fs_cons (m1 := [8]) (fs_set' (m1 := [8]) (i := 14) sc_law_k63.nd (fe_call (ok_law_numbers t) (hr.mono (by decide)) t.law_numbers.g t.law_numbers.F.kp t.law_numbers.b tk_of (fa_cons (fe_add (fe_call (ok_law_cell t) (hr.mono (by decide)) t.law_cell.g t.law_cell.F.kp t.law_cell.b tk_of (fa_cons (fe_var 0) (fa_cons (fe_add fe_int (fe_var 9)) fa_nil))) (fe_mul fe_int (fe_var 9))) (fa_cons fe_int fa_nil)))) (fs_one (fs_app 8 (pe_bm PySem.F.plainAttrs_list PySem.F.slot_list_append PySem.F.type_list_append mt_append (pv 8) (L2.pa_cons (fe_call (ok_law_partial_look t) (hr.mono (by decide)) t.law_partial_look.g t.law_partial_look.F.kp t.law_partial_look.b tk_of (fa_cons (fe_var 14) (fa_cons (fe_var 3) (fa_cons (fe_var 5) (fa_cons (fe_var 6) (fa_cons (fe_var 4) fa_nil)))))) L2.pa_nil)))))) (fs_wi (ms := []) (fs_cons (m1 := []) (fs_set' (m1 := []) (i := 10) sc_law_k63.nd (fe_call (ok_law_cuts_up_to t) (hr.mono (by decide)) t.law_cuts_up_to.g t.law_cuts_up_to.F.kp t.law_cuts_up_to.b tk_of (fa_cons (fe_var 3) (fa_cons (fe_var 5) (fa_cons (fe_var 8) fa_nil))))) (fs_cons (m1 := []) (fs_set' (m1 := []) (i := 11) sc_law_k63.nd (fe_tup (fa_cons fe_str (fa_cons (fe_tuple t.m_tuple (fe_new (fn_lc (own := [("place", 17)]) false sc_law_k63.nd (fi_range1 t.m_range (fe_add (fe_var 3) fe_int)) (by show blkC ["script", "n", "m", "rooms", "words", "log", "hidden", "many", "looks", "k", "ways", "due", "handed", "answer", "numbers", "p", "look", "place", "cuts"] (defScope (topS 30)) _ _ = true; decide +kernel) (fun _ _ _ _ _ => (fg_name sc_law_k63.nd (i := 17))) (fun _ _ _ _ _ => (fp_one (ft_gt (fe_len t.m_len (fe_ix (fe_var 10) (fe_var 17))) fe_int))) (fun _ _ _ _ _ => (fe_var 17))))) fa_nil)))) (fs_cons (m1 := []) (fs_if (ft_gt (fe_len t.m_len (fe_ix (fe_var 10) (fe_var 3))) fe_int) (fs_one (fs_set' (m1 := []) (i := 11) sc_law_k63.nd (fe_tup (fa_cons fe_str (fa_cons (fe_ix (fe_minL rfl hr t.m_min (fe_new (fn_lc (own := [("cuts", 18)]) false sc_law_k63.nd (fi_seq (fe_ix (fe_var 10) (fe_var 3))) (by show blkC ["script", "n", "m", "rooms", "words", "log", "hidden", "many", "looks", "k", "ways", "due", "handed", "answer", "numbers", "p", "look", "place", "cuts"] (defScope (topS 30)) _ _ = true; decide +kernel) (fun _ _ _ _ _ => (fg_name sc_law_k63.nd (i := 18))) (fun _ _ _ _ _ => fp_nil) (fun _ _ _ _ _ => (fe_tup (fa_cons (fe_len t.m_len (fe_var 18)) (fa_cons (fe_var 18) fa_nil))))))) fe_int) fa_nil))))) fs_nil) (fs_cons (m1 := []) (fs_set' (m1 := []) (i := 12) sc_law_k63.nd (fe_new (fn_lst (fa_cons (fe_new (fn_list t.m_list (fe_var 5))) (fa_cons (fe_new (fn_lc (own := [("look", 16)]) false sc_law_k63.nd (fi_seq (fe_var 8)) (by show blkC ["script", "n", "m", "rooms", "words", "log", "hidden", "many", "looks", "k", "ways", "due", "handed", "answer", "numbers", "p", "look", "place", "cuts"] (defScope (topS 30)) _ _ = true; decide +kernel) (fun _ _ _ _ _ => (fg_name sc_law_k63.nd (i := 16))) (fun _ _ _ _ _ => fp_nil) (fun _ _ _ _ _ => (fe_tup (fa_cons (fe_ix (fe_var 16) fe_int) (fa_cons (fe_new (fn_list t.m_list (fe_ix (fe_var 16) fe_int))) fa_nil)))))) fa_nil))))) (fs_cons (m1 := []) (fs_set' (m1 := []) (i := 13) sc_law_k63.nd (fe_call (ok_cuts_answer t) (hr.mono (by decide)) t.cuts_answer.g t.cuts_answer.F.kp t.cuts_answer.b tk_of (fa_cons (fe_var 3) (fa_cons (fe_ix (fe_var 12) fe_int) (fa_cons (fe_ix (fe_var 12) fe_int) fa_nil))))) (fs_cons (m1 := []) (fs_if (ft_not (ft_tr (fe_call (ok_law_same t 12) (hr.mono (by decide)) t.law_same.g t.law_same.F.kp t.law_same.b tk_of (fa_cons (fe_var 13) (fa_cons (fe_var 11) fa_nil))))) (fs_one (fs_ret fe_bl)) fs_nil) (fs_cons (m1 := []) (fs_if (PW.pt (fw_and (ft_eq hr (fe_ix (fe_var 13) fe_int) fe_str) (fw_one (ft_not (ft_tr (fe_call (ok_law_seen_so t) (hr.mono (by decide)) t.law_seen_so.g t.law_seen_so.F.kp t.law_seen_so.b tk_of (fa_cons (fe_var 3) (fa_cons (fe_var 5) (fa_cons (fe_var 8) (fa_cons (fe_ix (fe_var 13) fe_int) fa_nil)))))))))) (fs_one (fs_ret fe_bl)) fs_nil) (fs_cons (m1 := []) (fs_if (PW.pt (fw_and (ft_eq hr (fe_ix (fe_var 13) fe_int) fe_str) (fw_one (ft_in hr (fe_var 3) (fe_ix (fe_var 13) fe_int))))) (fs_one (fs_ret fe_bl)) fs_nil) (fs_cons (m1 := []) (fs_if (ft_not (ft_tr (fe_call (ok_law_same t 12) (hr.mono (by decide)) t.law_same.g t.law_same.F.kp t.law_same.b tk_of (fa_cons (fe_call (ok_cuts_answer t) (hr.mono (by decide)) t.cuts_answer.g t.cuts_answer.F.kp t.cuts_answer.b tk_of (fa_cons (fe_var 3) (fa_cons (fe_ix (fe_var 12) fe_int) (fa_cons (fe_new (fn_lst fa_nil)) fa_nil)))) (fa_cons (fe_tup (fa_cons fe_str (fa_cons (fe_tup fa_nil) fa_nil))) fa_nil))))) (fs_one (fs_ret fe_bl)) fs_nil) (fs_cons (m1 := []) (fs_if (ft_not (ft_tr (fe_call (ok_law_same t 12) (hr.mono (by decide)) t.law_same.g t.law_same.F.kp t.law_same.b tk_of (fa_cons (fe_call (ok_cuts_answer t) (hr.mono (by decide)) t.cuts_answer.g t.cuts_answer.F.kp t.cuts_answer.b tk_of (fa_cons (fe_var 3) (fa_cons (fe_ix (fe_var 12) fe_int) (fa_cons (fe_ix (fe_var 12) fe_int) fa_nil)))) (fa_cons (fe_var 11) fa_nil))))) (fs_one (fs_ret fe_bl)) fs_nil) (fs_one (fs_ret (fe_call (ok_law_same t 12) (hr.mono (by decide)) t.law_same.g t.law_same.F.kp t.law_same.b tk_of (fa_cons (fe_var 12) (fa_cons (fe_new (fn_lst (fa_cons (fe_var 5) (fa_cons (fe_var 8) fa_nil)))) fa_nil))))))))))))))))))))))))))
end
end Nk63

set_option Elab.async false
set_option linter.all false
set_option maxRecDepth 100000
set_option pp.maxSteps 400
set_option maxHeartbeats 4000000
namespace Nk63
open PySem PySem.Spec PyProof.Rows L2 Fd
theorem all_mk {w : World} {K : PySem.W.Frag} {h : Heap} {mg : Str → Option Value} {fa f_law_numbers f_law_log f_law_word_of f_law_sound f_law_cuts_up_to f_stretch_rooms f_word_of f_first_calls f_stretch_is_sound f_sound_ends f_fewest_stretches f_first_end f_fewest_cuts f_ways_from_start f_reachable_places f_cuts_answer f_law_same f_law_cell f_law_word f_law_words f_law_reach f_law_hear f_law_pick f_law_partial_look f_law_seen_so f_law : Addr} (X : K.In h) (G : h.Ns mainGlobals mg) (hmg : mg "law" = some (.ref fa)) {od_law_numbers an_law_numbers od_law_log an_law_log od_law_word_of an_law_word_of od_law_sound an_law_sound od_law_cuts_up_to an_law_cuts_up_to od_stretch_rooms an_stretch_rooms od_word_of an_word_of od_first_calls an_first_calls od_stretch_is_sound an_stretch_is_sound od_sound_ends an_sound_ends od_fewest_stretches an_fewest_stretches od_first_end an_first_end od_fewest_cuts an_fewest_cuts od_ways_from_start an_ways_from_start od_reachable_places an_reachable_places od_cuts_answer an_cuts_answer od_law_same an_law_same od_law_cell an_law_cell od_law_word an_law_word od_law_words an_law_words od_law_reach an_law_reach od_law_hear an_law_hear od_law_pick an_law_pick od_law_partial_look an_law_partial_look od_law_seen_so an_law_seen_so od_law an_law : Option Addr} {sl_law_numbers sl_law_log sl_law_word_of sl_law_sound sl_law_cuts_up_to sl_stretch_rooms sl_word_of sl_first_calls sl_stretch_is_sound sl_sound_ends sl_fewest_stretches sl_first_end sl_fewest_cuts sl_ways_from_start sl_reachable_places sl_cuts_answer sl_law_same sl_law_cell sl_law_word sl_law_words sl_law_reach sl_law_hear sl_law_pick sl_law_partial_look sl_law_seen_so sl_law : Array (Option Value)} {oc_law_numbers kV_law_numbers dc_law_numbers pm_law_numbers cd_law_numbers ct_law_numbers oc_law_log kV_law_log dc_law_log pm_law_log cd_law_log ct_law_log oc_law_word_of kV_law_word_of dc_law_word_of pm_law_word_of cd_law_word_of ct_law_word_of oc_law_sound kV_law_sound dc_law_sound pm_law_sound cd_law_sound ct_law_sound oc_law_cuts_up_to kV_law_cuts_up_to dc_law_cuts_up_to pm_law_cuts_up_to cd_law_cuts_up_to ct_law_cuts_up_to oc_stretch_rooms kV_stretch_rooms dc_stretch_rooms pm_stretch_rooms cd_stretch_rooms ct_stretch_rooms oc_word_of kV_word_of dc_word_of pm_word_of cd_word_of ct_word_of oc_first_calls kV_first_calls dc_first_calls pm_first_calls cd_first_calls ct_first_calls oc_stretch_is_sound kV_stretch_is_sound dc_stretch_is_sound pm_stretch_is_sound cd_stretch_is_sound ct_stretch_is_sound oc_sound_ends kV_sound_ends dc_sound_ends pm_sound_ends cd_sound_ends ct_sound_ends oc_fewest_stretches kV_fewest_stretches dc_fewest_stretches pm_fewest_stretches cd_fewest_stretches ct_fewest_stretches oc_first_end kV_first_end dc_first_end pm_first_end cd_first_end ct_first_end oc_fewest_cuts kV_fewest_cuts dc_fewest_cuts pm_fewest_cuts cd_fewest_cuts ct_fewest_cuts oc_ways_from_start kV_ways_from_start dc_ways_from_start pm_ways_from_start cd_ways_from_start ct_ways_from_start oc_reachable_places kV_reachable_places dc_reachable_places pm_reachable_places cd_reachable_places ct_reachable_places oc_cuts_answer kV_cuts_answer dc_cuts_answer pm_cuts_answer cd_cuts_answer ct_cuts_answer oc_law_same kV_law_same dc_law_same pm_law_same cd_law_same ct_law_same oc_law_cell kV_law_cell dc_law_cell pm_law_cell cd_law_cell ct_law_cell oc_law_word kV_law_word dc_law_word pm_law_word cd_law_word ct_law_word oc_law_words kV_law_words dc_law_words pm_law_words cd_law_words ct_law_words oc_law_reach kV_law_reach dc_law_reach pm_law_reach cd_law_reach ct_law_reach oc_law_hear kV_law_hear dc_law_hear pm_law_hear cd_law_hear ct_law_hear oc_law_pick kV_law_pick dc_law_pick pm_law_pick cd_law_pick ct_law_pick oc_law_partial_look kV_law_partial_look dc_law_partial_look pm_law_partial_look cd_law_partial_look ct_law_partial_look oc_law_seen_so kV_law_seen_so dc_law_seen_so pm_law_seen_so cd_law_seen_so ct_law_seen_so oc_law kV_law dc_law pm_law cd_law ct_law : Value}
    (a_law_numbers : PySem.W.nsIn K mainGlobals "_law_numbers" = some (some (.ref f_law_numbers))) (l_law_numbers : K.lookup f_law_numbers = some ⟨oc_law_numbers, od_law_numbers, .func (PySem.W.fnOf "_law_numbers" "_law_numbers" (defArgs (topS 17)) (defBody (topS 17)) (defScope (topS 17)) .none kV_law_numbers dc_law_numbers pm_law_numbers an_law_numbers cd_law_numbers ct_law_numbers), sl_law_numbers⟩) (c_law_numbers : PySem.W.codeIn K cd_law_numbers "_law_numbers" = true) (k_law_numbers : PySem.W.keepIn K (.ref f_law_numbers) = true)
    (a_law_log : PySem.W.nsIn K mainGlobals "_law_log" = some (some (.ref f_law_log))) (l_law_log : K.lookup f_law_log = some ⟨oc_law_log, od_law_log, .func (PySem.W.fnOf "_law_log" "_law_log" (defArgs (topS 20)) (defBody (topS 20)) (defScope (topS 20)) .none kV_law_log dc_law_log pm_law_log an_law_log cd_law_log ct_law_log), sl_law_log⟩) (c_law_log : PySem.W.codeIn K cd_law_log "_law_log" = true) (k_law_log : PySem.W.keepIn K (.ref f_law_log) = true)
    (a_law_word_of : PySem.W.nsIn K mainGlobals "_law_word_of" = some (some (.ref f_law_word_of))) (l_law_word_of : K.lookup f_law_word_of = some ⟨oc_law_word_of, od_law_word_of, .func (PySem.W.fnOf "_law_word_of" "_law_word_of" (defArgs (topS 22)) (defBody (topS 22)) (defScope (topS 22)) .none kV_law_word_of dc_law_word_of pm_law_word_of an_law_word_of cd_law_word_of ct_law_word_of), sl_law_word_of⟩) (c_law_word_of : PySem.W.codeIn K cd_law_word_of "_law_word_of" = true) (k_law_word_of : PySem.W.keepIn K (.ref f_law_word_of) = true)
    (a_law_sound : PySem.W.nsIn K mainGlobals "_law_sound" = some (some (.ref f_law_sound))) (l_law_sound : K.lookup f_law_sound = some ⟨oc_law_sound, od_law_sound, .func (PySem.W.fnOf "_law_sound" "_law_sound" (defArgs (topS 27)) (defBody (topS 27)) (defScope (topS 27)) .none kV_law_sound dc_law_sound pm_law_sound an_law_sound cd_law_sound ct_law_sound), sl_law_sound⟩) (c_law_sound : PySem.W.codeIn K cd_law_sound "_law_sound" = true) (k_law_sound : PySem.W.keepIn K (.ref f_law_sound) = true)
    (a_law_cuts_up_to : PySem.W.nsIn K mainGlobals "_law_cuts_up_to" = some (some (.ref f_law_cuts_up_to))) (l_law_cuts_up_to : K.lookup f_law_cuts_up_to = some ⟨oc_law_cuts_up_to, od_law_cuts_up_to, .func (PySem.W.fnOf "_law_cuts_up_to" "_law_cuts_up_to" (defArgs (topS 28)) (defBody (topS 28)) (defScope (topS 28)) .none kV_law_cuts_up_to dc_law_cuts_up_to pm_law_cuts_up_to an_law_cuts_up_to cd_law_cuts_up_to ct_law_cuts_up_to), sl_law_cuts_up_to⟩) (c_law_cuts_up_to : PySem.W.codeIn K cd_law_cuts_up_to "_law_cuts_up_to" = true) (k_law_cuts_up_to : PySem.W.keepIn K (.ref f_law_cuts_up_to) = true)
    (a_stretch_rooms : PySem.W.nsIn K mainGlobals "stretch_rooms" = some (some (.ref f_stretch_rooms))) (l_stretch_rooms : K.lookup f_stretch_rooms = some ⟨oc_stretch_rooms, od_stretch_rooms, .func (PySem.W.fnOf "stretch_rooms" "stretch_rooms" (defArgs (topS 6)) (defBody (topS 6)) (defScope (topS 6)) .none kV_stretch_rooms dc_stretch_rooms pm_stretch_rooms an_stretch_rooms cd_stretch_rooms ct_stretch_rooms), sl_stretch_rooms⟩) (c_stretch_rooms : PySem.W.codeIn K cd_stretch_rooms "stretch_rooms" = true) (k_stretch_rooms : PySem.W.keepIn K (.ref f_stretch_rooms) = true)
    (a_word_of : PySem.W.nsIn K mainGlobals "word_of" = some (some (.ref f_word_of))) (l_word_of : K.lookup f_word_of = some ⟨oc_word_of, od_word_of, .func (PySem.W.fnOf "word_of" "word_of" (defArgs (topS 1)) (defBody (topS 1)) (defScope (topS 1)) .none kV_word_of dc_word_of pm_word_of an_word_of cd_word_of ct_word_of), sl_word_of⟩) (c_word_of : PySem.W.codeIn K cd_word_of "word_of" = true) (k_word_of : PySem.W.keepIn K (.ref f_word_of) = true)
    (a_first_calls : PySem.W.nsIn K mainGlobals "first_calls" = some (some (.ref f_first_calls))) (l_first_calls : K.lookup f_first_calls = some ⟨oc_first_calls, od_first_calls, .func (PySem.W.fnOf "first_calls" "first_calls" (defArgs (topS 3)) (defBody (topS 3)) (defScope (topS 3)) .none kV_first_calls dc_first_calls pm_first_calls an_first_calls cd_first_calls ct_first_calls), sl_first_calls⟩) (c_first_calls : PySem.W.codeIn K cd_first_calls "first_calls" = true) (k_first_calls : PySem.W.keepIn K (.ref f_first_calls) = true)
    (a_stretch_is_sound : PySem.W.nsIn K mainGlobals "stretch_is_sound" = some (some (.ref f_stretch_is_sound))) (l_stretch_is_sound : K.lookup f_stretch_is_sound = some ⟨oc_stretch_is_sound, od_stretch_is_sound, .func (PySem.W.fnOf "stretch_is_sound" "stretch_is_sound" (defArgs (topS 7)) (defBody (topS 7)) (defScope (topS 7)) .none kV_stretch_is_sound dc_stretch_is_sound pm_stretch_is_sound an_stretch_is_sound cd_stretch_is_sound ct_stretch_is_sound), sl_stretch_is_sound⟩) (c_stretch_is_sound : PySem.W.codeIn K cd_stretch_is_sound "stretch_is_sound" = true) (k_stretch_is_sound : PySem.W.keepIn K (.ref f_stretch_is_sound) = true)
    (a_sound_ends : PySem.W.nsIn K mainGlobals "sound_ends" = some (some (.ref f_sound_ends))) (l_sound_ends : K.lookup f_sound_ends = some ⟨oc_sound_ends, od_sound_ends, .func (PySem.W.fnOf "sound_ends" "sound_ends" (defArgs (topS 8)) (defBody (topS 8)) (defScope (topS 8)) .none kV_sound_ends dc_sound_ends pm_sound_ends an_sound_ends cd_sound_ends ct_sound_ends), sl_sound_ends⟩) (c_sound_ends : PySem.W.codeIn K cd_sound_ends "sound_ends" = true) (k_sound_ends : PySem.W.keepIn K (.ref f_sound_ends) = true)
    (a_fewest_stretches : PySem.W.nsIn K mainGlobals "fewest_stretches" = some (some (.ref f_fewest_stretches))) (l_fewest_stretches : K.lookup f_fewest_stretches = some ⟨oc_fewest_stretches, od_fewest_stretches, .func (PySem.W.fnOf "fewest_stretches" "fewest_stretches" (defArgs (topS 10)) (defBody (topS 10)) (defScope (topS 10)) .none kV_fewest_stretches dc_fewest_stretches pm_fewest_stretches an_fewest_stretches cd_fewest_stretches ct_fewest_stretches), sl_fewest_stretches⟩) (c_fewest_stretches : PySem.W.codeIn K cd_fewest_stretches "fewest_stretches" = true) (k_fewest_stretches : PySem.W.keepIn K (.ref f_fewest_stretches) = true)
    (a_first_end : PySem.W.nsIn K mainGlobals "first_end" = some (some (.ref f_first_end))) (l_first_end : K.lookup f_first_end = some ⟨oc_first_end, od_first_end, .func (PySem.W.fnOf "first_end" "first_end" (defArgs (topS 11)) (defBody (topS 11)) (defScope (topS 11)) .none kV_first_end dc_first_end pm_first_end an_first_end cd_first_end ct_first_end), sl_first_end⟩) (c_first_end : PySem.W.codeIn K cd_first_end "first_end" = true) (k_first_end : PySem.W.keepIn K (.ref f_first_end) = true)
    (a_fewest_cuts : PySem.W.nsIn K mainGlobals "fewest_cuts" = some (some (.ref f_fewest_cuts))) (l_fewest_cuts : K.lookup f_fewest_cuts = some ⟨oc_fewest_cuts, od_fewest_cuts, .func (PySem.W.fnOf "fewest_cuts" "fewest_cuts" (defArgs (topS 12)) (defBody (topS 12)) (defScope (topS 12)) .none kV_fewest_cuts dc_fewest_cuts pm_fewest_cuts an_fewest_cuts cd_fewest_cuts ct_fewest_cuts), sl_fewest_cuts⟩) (c_fewest_cuts : PySem.W.codeIn K cd_fewest_cuts "fewest_cuts" = true) (k_fewest_cuts : PySem.W.keepIn K (.ref f_fewest_cuts) = true)
    (a_ways_from_start : PySem.W.nsIn K mainGlobals "ways_from_start" = some (some (.ref f_ways_from_start))) (l_ways_from_start : K.lookup f_ways_from_start = some ⟨oc_ways_from_start, od_ways_from_start, .func (PySem.W.fnOf "ways_from_start" "ways_from_start" (defArgs (topS 9)) (defBody (topS 9)) (defScope (topS 9)) .none kV_ways_from_start dc_ways_from_start pm_ways_from_start an_ways_from_start cd_ways_from_start ct_ways_from_start), sl_ways_from_start⟩) (c_ways_from_start : PySem.W.codeIn K cd_ways_from_start "ways_from_start" = true) (k_ways_from_start : PySem.W.keepIn K (.ref f_ways_from_start) = true)
    (a_reachable_places : PySem.W.nsIn K mainGlobals "reachable_places" = some (some (.ref f_reachable_places))) (l_reachable_places : K.lookup f_reachable_places = some ⟨oc_reachable_places, od_reachable_places, .func (PySem.W.fnOf "reachable_places" "reachable_places" (defArgs (topS 13)) (defBody (topS 13)) (defScope (topS 13)) .none kV_reachable_places dc_reachable_places pm_reachable_places an_reachable_places cd_reachable_places ct_reachable_places), sl_reachable_places⟩) (c_reachable_places : PySem.W.codeIn K cd_reachable_places "reachable_places" = true) (k_reachable_places : PySem.W.keepIn K (.ref f_reachable_places) = true)
    (a_cuts_answer : PySem.W.nsIn K mainGlobals "cuts_answer" = some (some (.ref f_cuts_answer))) (l_cuts_answer : K.lookup f_cuts_answer = some ⟨oc_cuts_answer, od_cuts_answer, .func (PySem.W.fnOf "cuts_answer" "cuts_answer" (defArgs (topS 14)) (defBody (topS 14)) (defScope (topS 14)) .none kV_cuts_answer dc_cuts_answer pm_cuts_answer an_cuts_answer cd_cuts_answer ct_cuts_answer), sl_cuts_answer⟩) (c_cuts_answer : PySem.W.codeIn K cd_cuts_answer "cuts_answer" = true) (k_cuts_answer : PySem.W.keepIn K (.ref f_cuts_answer) = true)
    (a_law_same : PySem.W.nsIn K mainGlobals "_law_same" = some (some (.ref f_law_same))) (l_law_same : K.lookup f_law_same = some ⟨oc_law_same, od_law_same, .func (PySem.W.fnOf "_law_same" "_law_same" (defArgs (topS 24)) (defBody (topS 24)) (defScope (topS 24)) .none kV_law_same dc_law_same pm_law_same an_law_same cd_law_same ct_law_same), sl_law_same⟩) (c_law_same : PySem.W.codeIn K cd_law_same "_law_same" = true) (k_law_same : PySem.W.keepIn K (.ref f_law_same) = true)
    (a_law_cell : PySem.W.nsIn K mainGlobals "_law_cell" = some (some (.ref f_law_cell))) (l_law_cell : K.lookup f_law_cell = some ⟨oc_law_cell, od_law_cell, .func (PySem.W.fnOf "_law_cell" "_law_cell" (defArgs (topS 16)) (defBody (topS 16)) (defScope (topS 16)) .none kV_law_cell dc_law_cell pm_law_cell an_law_cell cd_law_cell ct_law_cell), sl_law_cell⟩) (c_law_cell : PySem.W.codeIn K cd_law_cell "_law_cell" = true) (k_law_cell : PySem.W.keepIn K (.ref f_law_cell) = true)
    (a_law_word : PySem.W.nsIn K mainGlobals "_law_word" = some (some (.ref f_law_word))) (l_law_word : K.lookup f_law_word = some ⟨oc_law_word, od_law_word, .func (PySem.W.fnOf "_law_word" "_law_word" (defArgs (topS 18)) (defBody (topS 18)) (defScope (topS 18)) .none kV_law_word dc_law_word pm_law_word an_law_word cd_law_word ct_law_word), sl_law_word⟩) (c_law_word : PySem.W.codeIn K cd_law_word "_law_word" = true) (k_law_word : PySem.W.keepIn K (.ref f_law_word) = true)
    (a_law_words : PySem.W.nsIn K mainGlobals "_law_words" = some (some (.ref f_law_words))) (l_law_words : K.lookup f_law_words = some ⟨oc_law_words, od_law_words, .func (PySem.W.fnOf "_law_words" "_law_words" (defArgs (topS 19)) (defBody (topS 19)) (defScope (topS 19)) .none kV_law_words dc_law_words pm_law_words an_law_words cd_law_words ct_law_words), sl_law_words⟩) (c_law_words : PySem.W.codeIn K cd_law_words "_law_words" = true) (k_law_words : PySem.W.keepIn K (.ref f_law_words) = true)
    (a_law_reach : PySem.W.nsIn K mainGlobals "_law_reach" = some (some (.ref f_law_reach))) (l_law_reach : K.lookup f_law_reach = some ⟨oc_law_reach, od_law_reach, .func (PySem.W.fnOf "_law_reach" "_law_reach" (defArgs (topS 21)) (defBody (topS 21)) (defScope (topS 21)) .none kV_law_reach dc_law_reach pm_law_reach an_law_reach cd_law_reach ct_law_reach), sl_law_reach⟩) (c_law_reach : PySem.W.codeIn K cd_law_reach "_law_reach" = true) (k_law_reach : PySem.W.keepIn K (.ref f_law_reach) = true)
    (a_law_hear : PySem.W.nsIn K mainGlobals "_law_hear" = some (some (.ref f_law_hear))) (l_law_hear : K.lookup f_law_hear = some ⟨oc_law_hear, od_law_hear, .func (PySem.W.fnOf "_law_hear" "_law_hear" (defArgs (topS 23)) (defBody (topS 23)) (defScope (topS 23)) .none kV_law_hear dc_law_hear pm_law_hear an_law_hear cd_law_hear ct_law_hear), sl_law_hear⟩) (c_law_hear : PySem.W.codeIn K cd_law_hear "_law_hear" = true) (k_law_hear : PySem.W.keepIn K (.ref f_law_hear) = true)
    (a_law_pick : PySem.W.nsIn K mainGlobals "_law_pick" = some (some (.ref f_law_pick))) (l_law_pick : K.lookup f_law_pick = some ⟨oc_law_pick, od_law_pick, .func (PySem.W.fnOf "_law_pick" "_law_pick" (defArgs (topS 25)) (defBody (topS 25)) (defScope (topS 25)) .none kV_law_pick dc_law_pick pm_law_pick an_law_pick cd_law_pick ct_law_pick), sl_law_pick⟩) (c_law_pick : PySem.W.codeIn K cd_law_pick "_law_pick" = true) (k_law_pick : PySem.W.keepIn K (.ref f_law_pick) = true)
    (a_law_partial_look : PySem.W.nsIn K mainGlobals "_law_partial_look" = some (some (.ref f_law_partial_look))) (l_law_partial_look : K.lookup f_law_partial_look = some ⟨oc_law_partial_look, od_law_partial_look, .func (PySem.W.fnOf "_law_partial_look" "_law_partial_look" (defArgs (topS 26)) (defBody (topS 26)) (defScope (topS 26)) .none kV_law_partial_look dc_law_partial_look pm_law_partial_look an_law_partial_look cd_law_partial_look ct_law_partial_look), sl_law_partial_look⟩) (c_law_partial_look : PySem.W.codeIn K cd_law_partial_look "_law_partial_look" = true) (k_law_partial_look : PySem.W.keepIn K (.ref f_law_partial_look) = true)
    (a_law_seen_so : PySem.W.nsIn K mainGlobals "_law_seen_so" = some (some (.ref f_law_seen_so))) (l_law_seen_so : K.lookup f_law_seen_so = some ⟨oc_law_seen_so, od_law_seen_so, .func (PySem.W.fnOf "_law_seen_so" "_law_seen_so" (defArgs (topS 29)) (defBody (topS 29)) (defScope (topS 29)) .none kV_law_seen_so dc_law_seen_so pm_law_seen_so an_law_seen_so cd_law_seen_so ct_law_seen_so), sl_law_seen_so⟩) (c_law_seen_so : PySem.W.codeIn K cd_law_seen_so "_law_seen_so" = true) (k_law_seen_so : PySem.W.keepIn K (.ref f_law_seen_so) = true)
    (a_law : PySem.W.nsIn K mainGlobals "law" = some (some (.ref f_law))) (l_law : K.lookup f_law = some ⟨oc_law, od_law, .func (PySem.W.fnOf "law" "law" (defArgs (topS 30)) (defBody (topS 30)) (defScope (topS 30)) .none kV_law dc_law pm_law an_law cd_law ct_law), sl_law⟩) (c_law : PySem.W.codeIn K cd_law "law" = true) (k_law : PySem.W.keepIn K (.ref f_law) = true)
    (z_abs : PySem.W.nsIn K mainGlobals "abs" = some none)
    (z_bool : PySem.W.nsIn K mainGlobals "bool" = some none)
    (z_enumerate : PySem.W.nsIn K mainGlobals "enumerate" = some none)
    (z_int : PySem.W.nsIn K mainGlobals "int" = some none)
    (z_isinstance : PySem.W.nsIn K mainGlobals "isinstance" = some none)
    (z_len : PySem.W.nsIn K mainGlobals "len" = some none)
    (z_list : PySem.W.nsIn K mainGlobals "list" = some none)
    (z_min : PySem.W.nsIn K mainGlobals "min" = some none)
    (z_range : PySem.W.nsIn K mainGlobals "range" = some none)
    (z_reversed : PySem.W.nsIn K mainGlobals "reversed" = some none)
    (z_sorted : PySem.W.nsIn K mainGlobals "sorted" = some none)
    (z_str : PySem.W.nsIn K mainGlobals "str" = some none)
    (z_tuple : PySem.W.nsIn K mainGlobals "tuple" = some none)
    {tok_NOT_SEEN : Tok} (z_NOT_SEEN : PySem.W.nsIn K mainGlobals "NOT_SEEN" = some (some (Value.str "?" tok_NOT_SEEN)))
    : ∃ fd : FuncData, (∀ (s : Shared) (u : Value), BindsTo s fd ⟨[u], []⟩ [("script", u)]) ∧ ∀ base : Heap, K.In base → base.Ns mainGlobals mg → FnOk PySem.Challenge.rw_callsheard_k63_whole_cuts_answer.prog w K mg base (L2.CX PySem.Challenge.rw_callsheard_k63_whole_cuts_answer.prog w) 14 fa fd ["script"] (spLaw K) := by
  have D_law_numbers := mkDefAt (ps := ["cell", "count"]) X G a_law_numbers l_law_numbers c_law_numbers k_law_numbers (fun _ _ _ _ _ _ us hl => match us, hl with | [_, _], _ => rfl)
  have D_law_log := mkDefAt (ps := ["numbers", "at", "many", "rooms", "words"]) X G a_law_log l_law_log c_law_log k_law_log (fun _ _ _ _ _ _ us hl => match us, hl with | [_, _, _, _, _], _ => rfl)
  have D_law_word_of := mkDefAt (ps := ["log", "rooms"]) X G a_law_word_of l_law_word_of c_law_word_of k_law_word_of (fun _ _ _ _ _ _ us hl => match us, hl with | [_, _], _ => rfl)
  have D_law_sound := mkDefAt (ps := ["log", "looks", "start", "end"]) X G a_law_sound l_law_sound c_law_sound k_law_sound (fun _ _ _ _ _ _ us hl => match us, hl with | [_, _, _, _], _ => rfl)
  have D_law_cuts_up_to := mkDefAt (ps := ["rooms", "log", "looks"]) X G a_law_cuts_up_to l_law_cuts_up_to c_law_cuts_up_to k_law_cuts_up_to (fun _ _ _ _ _ _ us hl => match us, hl with | [_, _, _], _ => rfl)
  have D_stretch_rooms := mkDefAt (ps := ["start", "end"]) X G a_stretch_rooms l_stretch_rooms c_stretch_rooms k_stretch_rooms (fun _ _ _ _ _ _ us hl => match us, hl with | [_, _], _ => rfl)
  have D_word_of := mkDefAt (ps := ["log", "rooms"]) X G a_word_of l_word_of c_word_of k_word_of (fun _ _ _ _ _ _ us hl => match us, hl with | [_, _], _ => rfl)
  have D_first_calls := mkDefAt (ps := ["log", "look"]) X G a_first_calls l_first_calls c_first_calls k_first_calls (fun _ _ _ _ _ _ us hl => match us, hl with | [_, _], _ => rfl)
  have D_stretch_is_sound := mkDefAt (ps := ["log", "looks", "start", "end"]) X G a_stretch_is_sound l_stretch_is_sound c_stretch_is_sound k_stretch_is_sound (fun _ _ _ _ _ _ us hl => match us, hl with | [_, _, _, _], _ => rfl)
  have D_sound_ends := mkDefAt (ps := ["rooms", "log", "looks"]) X G a_sound_ends l_sound_ends c_sound_ends k_sound_ends (fun _ _ _ _ _ _ us hl => match us, hl with | [_, _, _], _ => rfl)
  have D_fewest_stretches := mkDefAt (ps := ["ends"]) X G a_fewest_stretches l_fewest_stretches c_fewest_stretches k_fewest_stretches (fun _ _ _ _ _ _ us hl => match us, hl with | [_], _ => rfl)
  have D_first_end := mkDefAt (ps := ["ends", "fewest", "start"]) X G a_first_end l_first_end c_first_end k_first_end (fun _ _ _ _ _ _ us hl => match us, hl with | [_, _, _], _ => rfl)
  have D_fewest_cuts := mkDefAt (ps := ["ends", "fewest"]) X G a_fewest_cuts l_fewest_cuts c_fewest_cuts k_fewest_cuts (fun _ _ _ _ _ _ us hl => match us, hl with | [_, _], _ => rfl)
  have D_ways_from_start := mkDefAt (ps := ["ends"]) X G a_ways_from_start l_ways_from_start c_ways_from_start k_ways_from_start (fun _ _ _ _ _ _ us hl => match us, hl with | [_], _ => rfl)
  have D_reachable_places := mkDefAt (ps := ["ends"]) X G a_reachable_places l_reachable_places c_reachable_places k_reachable_places (fun _ _ _ _ _ _ us hl => match us, hl with | [_], _ => rfl)
  have D_cuts_answer := mkDefAt (ps := ["rooms", "log", "looks"]) X G a_cuts_answer l_cuts_answer c_cuts_answer k_cuts_answer (fun _ _ _ _ _ _ us hl => match us, hl with | [_, _, _], _ => rfl)
  have D_law_same := mkDefAt (ps := ["got", "due"]) X G a_law_same l_law_same c_law_same k_law_same (fun _ _ _ _ _ _ us hl => match us, hl with | [_, _], _ => rfl)
  have D_law_cell := mkDefAt (ps := ["script", "k"]) X G a_law_cell l_law_cell c_law_cell k_law_cell (fun _ _ _ _ _ _ us hl => match us, hl with | [_, _], _ => rfl)
  have D_law_word := mkDefAt (ps := ["a", "b"]) X G a_law_word l_law_word c_law_word k_law_word (fun _ _ _ _ _ _ us hl => match us, hl with | [_, _], _ => rfl)
  have D_law_words := mkDefAt (ps := ["numbers", "at", "many"]) X G a_law_words l_law_words c_law_words k_law_words (fun _ _ _ _ _ _ us hl => match us, hl with | [_, _, _], _ => rfl)
  have D_law_reach := mkDefAt (ps := ["doors", "start", "inside"]) X G a_law_reach l_law_reach c_law_reach k_law_reach (fun _ _ _ _ _ _ us hl => match us, hl with | [_, _, _], _ => rfl)
  have D_law_hear := mkDefAt (ps := ["rooms", "log", "opening"]) X G a_law_hear l_law_hear c_law_hear k_law_hear (fun _ _ _ _ _ _ us hl => match us, hl with | [_, _, _], _ => rfl)
  have D_law_pick := mkDefAt (ps := ["pool", "number"]) X G a_law_pick l_law_pick c_law_pick k_law_pick (fun _ _ _ _ _ _ us hl => match us, hl with | [_, _], _ => rfl)
  have D_law_partial_look := mkDefAt (ps := ["numbers", "rooms", "log", "hidden", "words"]) X G a_law_partial_look l_law_partial_look c_law_partial_look k_law_partial_look (fun _ _ _ _ _ _ us hl => match us, hl with | [_, _, _, _, _], _ => rfl)
  have D_law_seen_so := mkDefAt (ps := ["rooms", "log", "looks", "cuts"]) X G a_law_seen_so l_law_seen_so c_law_seen_so k_law_seen_so (fun _ _ _ _ _ _ us hl => match us, hl with | [_, _, _, _], _ => rfl)
  let D_law := mkDefAt (ps := ["script"]) X G a_law l_law c_law k_law (fun _ _ _ _ _ _ us hl => match us, hl with | [_], _ => rfl)
  let t : Tx K mg := { ca := fun _ => 0, law_numbers := D_law_numbers, law_log := D_law_log, law_word_of := D_law_word_of, law_sound := D_law_sound, law_cuts_up_to := D_law_cuts_up_to, stretch_rooms := D_stretch_rooms, word_of := D_word_of, first_calls := D_first_calls, stretch_is_sound := D_stretch_is_sound, sound_ends := D_sound_ends, fewest_stretches := D_fewest_stretches, first_end := D_first_end, fewest_cuts := D_fewest_cuts, ways_from_start := D_ways_from_start, reachable_places := D_reachable_places, cuts_answer := D_cuts_answer, law_same := D_law_same, law_cell := D_law_cell, law_word := D_law_word, law_words := D_law_words, law_reach := D_law_reach, law_hear := D_law_hear, law_pick := D_law_pick, law_partial_look := D_law_partial_look, law_seen_so := D_law_seen_so, law := D_law, m_abs := PySem.W.mg_none_of X G z_abs, m_bool := PySem.W.mg_none_of X G z_bool, m_enumerate := PySem.W.mg_none_of X G z_enumerate, m_int := PySem.W.mg_none_of X G z_int, m_isinstance := PySem.W.mg_none_of X G z_isinstance, m_len := PySem.W.mg_none_of X G z_len, m_list := PySem.W.mg_none_of X G z_list, m_min := PySem.W.mg_none_of X G z_min, m_range := PySem.W.mg_none_of X G z_range, m_reversed := PySem.W.mg_none_of X G z_reversed, m_sorted := PySem.W.mg_none_of X G z_sorted, m_str := PySem.W.mg_none_of X G z_str, m_tuple := PySem.W.mg_none_of X G z_tuple, c_NOT_SEEN := ⟨_, PySem.W.mg_of X G z_NOT_SEEN, _, rfl⟩ }
  have hf : f_law = fa := by have z := (PySem.W.mg_of X G a_law).symm.trans hmg; cases z; rfl
  subst hf
  exact ⟨_, fun s u => .of_eq rfl, fun base _ _ => law_end (T := t.T) main_k63 (ok_law_k63 t) rfl⟩
end Nk63
open PySem PySem.W PyProof.Rows
set_option maxHeartbeats 0 in
theorem PySem.Challenge.cw_callsheard_k63_whole_cuts_answer_holds : PySem.Challenge.rw_callsheard_k63_whole_cuts_answer.Holds := by
  w_on; o_law; k_head; (case hw => w_witness2)
  k_fill
  refine L2.walk_of (l := PySem.Challenge.rw_callsheard_k63_whole_cuts_answer) (n := 63) (k := 14) (x := "script") (CX := fun w => L2.CX PySem.Challenge.rw_callsheard_k63_whole_cuts_answer.prog w) (sp := fun w => Fd.spLaw _) rfl (by decide) rfl ⟨rfl, by decide, by decide⟩ (fun w h Y => PySem.W.kIn_of Y) ?F (fun _ _ a ns hl _ hS => ⟨a, ns, rfl, hS, hl, fun _ => rfl⟩) (fun _ _ _ _ _ h => Fd.cx_end h)
  case F =>
    intro w mg fa h KX G hmg
    refine' Nk63.all_mk KX G hmg ?a_law_numbers ?l_law_numbers ?c_law_numbers ?k_law_numbers ?a_law_log ?l_law_log ?c_law_log ?k_law_log ?a_law_word_of ?l_law_word_of ?c_law_word_of ?k_law_word_of ?a_law_sound ?l_law_sound ?c_law_sound ?k_law_sound ?a_law_cuts_up_to ?l_law_cuts_up_to ?c_law_cuts_up_to ?k_law_cuts_up_to ?a_stretch_rooms ?l_stretch_rooms ?c_stretch_rooms ?k_stretch_rooms ?a_word_of ?l_word_of ?c_word_of ?k_word_of ?a_first_calls ?l_first_calls ?c_first_calls ?k_first_calls ?a_stretch_is_sound ?l_stretch_is_sound ?c_stretch_is_sound ?k_stretch_is_sound ?a_sound_ends ?l_sound_ends ?c_sound_ends ?k_sound_ends ?a_fewest_stretches ?l_fewest_stretches ?c_fewest_stretches ?k_fewest_stretches ?a_first_end ?l_first_end ?c_first_end ?k_first_end ?a_fewest_cuts ?l_fewest_cuts ?c_fewest_cuts ?k_fewest_cuts ?a_ways_from_start ?l_ways_from_start ?c_ways_from_start ?k_ways_from_start ?a_reachable_places ?l_reachable_places ?c_reachable_places ?k_reachable_places ?a_cuts_answer ?l_cuts_answer ?c_cuts_answer ?k_cuts_answer ?a_law_same ?l_law_same ?c_law_same ?k_law_same ?a_law_cell ?l_law_cell ?c_law_cell ?k_law_cell ?a_law_word ?l_law_word ?c_law_word ?k_law_word ?a_law_words ?l_law_words ?c_law_words ?k_law_words ?a_law_reach ?l_law_reach ?c_law_reach ?k_law_reach ?a_law_hear ?l_law_hear ?c_law_hear ?k_law_hear ?a_law_pick ?l_law_pick ?c_law_pick ?k_law_pick ?a_law_partial_look ?l_law_partial_look ?c_law_partial_look ?k_law_partial_look ?a_law_seen_so ?l_law_seen_so ?c_law_seen_so ?k_law_seen_so ?a_law ?l_law ?c_law ?k_law ?z_abs ?z_bool ?z_enumerate ?z_int ?z_isinstance ?z_len ?z_list ?z_min ?z_range ?z_reversed ?z_sorted ?z_str ?z_tuple ?z_NOT_SEEN
    (case a_law_numbers => k_is); (case l_law_numbers => k_is); (case c_law_numbers => k_is); (case k_law_numbers => k_is)
    (case a_law_log => k_is); (case l_law_log => k_is); (case c_law_log => k_is); (case k_law_log => k_is)
    (case a_law_word_of => k_is); (case l_law_word_of => k_is); (case c_law_word_of => k_is); (case k_law_word_of => k_is)
    (case a_law_sound => k_is); (case l_law_sound => k_is); (case c_law_sound => k_is); (case k_law_sound => k_is)
    (case a_law_cuts_up_to => k_is); (case l_law_cuts_up_to => k_is); (case c_law_cuts_up_to => k_is); (case k_law_cuts_up_to => k_is)
    (case a_stretch_rooms => k_is); (case l_stretch_rooms => k_is); (case c_stretch_rooms => k_is); (case k_stretch_rooms => k_is)
    (case a_word_of => k_is); (case l_word_of => k_is); (case c_word_of => k_is); (case k_word_of => k_is)
    (case a_first_calls => k_is); (case l_first_calls => k_is); (case c_first_calls => k_is); (case k_first_calls => k_is)
    (case a_stretch_is_sound => k_is); (case l_stretch_is_sound => k_is); (case c_stretch_is_sound => k_is); (case k_stretch_is_sound => k_is)
    (case a_sound_ends => k_is); (case l_sound_ends => k_is); (case c_sound_ends => k_is); (case k_sound_ends => k_is)
    (case a_fewest_stretches => k_is); (case l_fewest_stretches => k_is); (case c_fewest_stretches => k_is); (case k_fewest_stretches => k_is)
    (case a_first_end => k_is); (case l_first_end => k_is); (case c_first_end => k_is); (case k_first_end => k_is)
    (case a_fewest_cuts => k_is); (case l_fewest_cuts => k_is); (case c_fewest_cuts => k_is); (case k_fewest_cuts => k_is)
    (case a_ways_from_start => k_is); (case l_ways_from_start => k_is); (case c_ways_from_start => k_is); (case k_ways_from_start => k_is)
    (case a_reachable_places => k_is); (case l_reachable_places => k_is); (case c_reachable_places => k_is); (case k_reachable_places => k_is)
    (case a_cuts_answer => k_is); (case l_cuts_answer => k_is); (case c_cuts_answer => k_is); (case k_cuts_answer => k_is)
    (case a_law_same => k_is); (case l_law_same => k_is); (case c_law_same => k_is); (case k_law_same => k_is)
    (case a_law_cell => k_is); (case l_law_cell => k_is); (case c_law_cell => k_is); (case k_law_cell => k_is)
    (case a_law_word => k_is); (case l_law_word => k_is); (case c_law_word => k_is); (case k_law_word => k_is)
    (case a_law_words => k_is); (case l_law_words => k_is); (case c_law_words => k_is); (case k_law_words => k_is)
    (case a_law_reach => k_is); (case l_law_reach => k_is); (case c_law_reach => k_is); (case k_law_reach => k_is)
    (case a_law_hear => k_is); (case l_law_hear => k_is); (case c_law_hear => k_is); (case k_law_hear => k_is)
    (case a_law_pick => k_is); (case l_law_pick => k_is); (case c_law_pick => k_is); (case k_law_pick => k_is)
    (case a_law_partial_look => k_is); (case l_law_partial_look => k_is); (case c_law_partial_look => k_is); (case k_law_partial_look => k_is)
    (case a_law_seen_so => k_is); (case l_law_seen_so => k_is); (case c_law_seen_so => k_is); (case k_law_seen_so => k_is)
    (case a_law => k_is); (case l_law => k_is); (case c_law => k_is); (case k_law => k_is)
    (case z_abs => k_is)
    (case z_bool => k_is)
    (case z_enumerate => k_is)
    (case z_int => k_is)
    (case z_isinstance => k_is)
    (case z_len => k_is)
    (case z_list => k_is)
    (case z_min => k_is)
    (case z_range => k_is)
    (case z_reversed => k_is)
    (case z_sorted => k_is)
    (case z_str => k_is)
    (case z_tuple => k_is)
    (case z_NOT_SEEN => k_is)
