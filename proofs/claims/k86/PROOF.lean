import PyProof.Rows.All
import Wide.All
import OpenK.AllK
import Wide.FinOn
import HandS.ForMost
import HandS.Wide
import HandS.TupAny
import HandS.IsInst
import HandS.ListItems
import HandS.SortInts
import KE.KEqNest
import HandS.More
import HandS.Exc
import HandS.ExcOwn
import HandS.CallSlots
import PyProof.InstNe
import HandS.Style
import HandS.DictComp
import HandS.Codes
import HandS.Ends
import HandS.Defaults
import PySem.Challenge.RW_prepaidplans_k86_whole_row_algebra
set_option Elab.async false
set_option linter.all false
set_option maxRecDepth 100000
set_option maxHeartbeats 4000000
/-! Plain data over the hand layer: what a value of the abstract heap stands for, boxes of a store for what changes. -/
namespace PD
open PySem L2

/-- plain data: never changes -/
inductive P where
  | non | bl (b : Bool) | int (i : Int) | str (s : Str)
  | tup (l : List P) | lst (l : List P)
  /-- a tuple, a list that is read alone: of the module's own top, or the script -/
  | ktup (l : List P) | fls (l : List P)
  | dk (ks : List Key) (vs : List P)
  | dt (ks : List (List Key)) (vs : List P)
  | ins (c : Nat) (ns : List Str) (vs : List P)
/-- what an expression hands on: data, or a box -/
inductive D where
  | p (x : P) | box (n : Nat)
/-- what stands in a box -/
inductive O where
  | lst (l : List P)
  | dk (ks : List Key) (vs : List P)
  | dt (ks : List (List Key)) (vs : List P)
  | ins (c : Nat) (ns : List Str) (vs : List D)
/-- a store: boxes by number, none: gone -/
abbrev Sto := List (Option O)

section
variable (K : PySem.W.Frag) (cl : Nat → Addr) (G : Hp)
mutual
def Rep : P → V → Prop
  | .non, v => v = .non
  | .bl b, v => v = .bl b
  | .int i, v => v = .int i
  | .str s, v => v = .str s
  | .tup l, v => ∃ a xs, v = .ref a ∧ G a = some (.tup xs) ∧ RepL l xs
  | .lst l, v => ∃ a xs, v = .ref a ∧ G a = some (.lst xs) ∧ RepL l xs
  | .ktup l, v => ∃ a xs, v = .ref a ∧ SqT K G a xs ∧ RepL l xs
  | .fls l, v => ∃ a xs, v = .ref a ∧ SqL K G a xs ∧ RepL l xs
  | .dk ks vs, v => ∃ a kvs, v = .ref a ∧ Rd G a (.dK kvs) ∧ kvs.map (·.1) = ks ∧ RepL vs (kvs.map (·.2))
  | .dt ks vs, v => ∃ a kvs, v = .ref a ∧ Rd G a (.dT kvs) ∧ kvs.map (·.1) = ks ∧ RepL vs (kvs.map (·.2))
  | .ins c ns vs, v => ∃ a dx ys, v = .ref a ∧ G a = some (.ins (cl c) dx ys) ∧ ys.map (·.1) = ns ∧ RepL vs (ys.map (·.2))
def RepL : List P → List V → Prop
  | [], xs => xs = []
  | p :: l, xs => ∃ v r, xs = v :: r ∧ Rep p v ∧ RepL l r
end
end

section
variable {K : PySem.W.Frag} {cl : Nat → Addr} {G G' : Hp}
/-- not a dict -/
def NoDict : HO → Prop
  | .dK _ | .dT _ => False
  | _ => True
/-- all that may be read may be read still; but for dicts all is as it is -/
structure Gle (G G' : Hp) : Prop where
  rd : ∀ a u, Rd G a u → Rd G' a u
  ex : ∀ a u, NoDict u → G a = some u → G' a = some u
theorem Gle.refl (G : Hp) : Gle G G := ⟨fun _ _ h => h, fun _ _ _ h => h⟩
theorem Gle.trans {G1 G2 G3 : Hp} (a : Gle G1 G2) (b : Gle G2 G3) : Gle G1 G3 := ⟨fun c u h => b.rd c u (a.rd c u h), fun c u n h => b.ex c u n (a.ex c u n h)⟩
theorem Gle.of (h : ∀ a u, G a = some u → G' a = some u) : Gle G G' := ⟨fun a u r => r.elim (fun e => .inl (h a u e)) fun ⟨o, e⟩ => .inr ⟨o, h a _ e⟩, fun a u _ e => h a _ e⟩
theorem Gle.sqT (g : Gle G G') {a : Addr} {xs : List V} (h : SqT K G a xs) : SqT K G' a xs := h.elim (fun h => .inl (g.rd a _ h)) .inr
theorem Gle.sqL (g : Gle G G') {a : Addr} {xs : List V} (h : SqL K G a xs) : SqL K G' a xs := h.elim (fun h => .inl (g.rd a _ h)) .inr
mutual
theorem Rep.mono (g : Gle G G') : ∀ (p : P) (v : V), Rep K cl G p v → Rep K cl G' p v
  | .non, _, h => h
  | .bl _, _, h => h
  | .int _, _, h => h
  | .str _, _, h => h
  | .tup l, _, ⟨a, xs, e, h, r⟩ => ⟨a, xs, e, g.ex a _ trivial h, RepL.mono g l xs r⟩
  | .lst l, _, ⟨a, xs, e, h, r⟩ => ⟨a, xs, e, g.ex a _ trivial h, RepL.mono g l xs r⟩
  | .ktup l, _, ⟨a, xs, e, h, r⟩ => ⟨a, xs, e, g.sqT h, RepL.mono g l xs r⟩
  | .fls l, _, ⟨a, xs, e, h, r⟩ => ⟨a, xs, e, g.sqL h, RepL.mono g l xs r⟩
  | .dk ks vs, _, ⟨a, xs, e, h, k, r⟩ => ⟨a, xs, e, g.rd a _ h, k, RepL.mono g vs _ r⟩
  | .dt ks vs, _, ⟨a, xs, e, h, k, r⟩ => ⟨a, xs, e, g.rd a _ h, k, RepL.mono g vs _ r⟩
  | .ins c ns vs, _, ⟨a, dx, ys, e, h, k, r⟩ => ⟨a, dx, ys, e, g.ex a _ trivial h, k, RepL.mono g vs _ r⟩
theorem RepL.mono (g : Gle G G') : ∀ (l : List P) (xs : List V), RepL K cl G l xs → RepL K cl G' l xs
  | [], _, h => h
  | p :: l, _, ⟨v, r, e, h, t⟩ => ⟨v, r, e, Rep.mono g p v h, RepL.mono g l r t⟩
end
theorem RepL.len : ∀ {l : List P} {xs : List V}, RepL K cl G l xs → l.length = xs.length
  | [], _, h => by rw [show _ = [] from h]; rfl
  | p :: l, _, ⟨v, r, e, _, t⟩ => by rw [e, List.length_cons, List.length_cons, RepL.len t]
theorem RepL.get : ∀ {l : List P} {xs : List V} {i : Nat} {p : P}, RepL K cl G l xs → l[i]? = some p → ∃ v, xs[i]? = some v ∧ Rep K cl G p v
  | [], _, _, _, _, e => by simp at e
  | q :: l, _, 0, p, ⟨v, r, e, h, t⟩, e2 => by
    simp at e2
    subst e2
    exact ⟨v, by rw [e]; rfl, h⟩
  | q :: l, _, i + 1, p, ⟨v, r, e, h, t⟩, e2 => by
    obtain ⟨w, h1, h2⟩ := RepL.get (i := i) (p := p) t (by simpa using e2)
    exact ⟨w, by rw [e]; simpa using h1, h2⟩
theorem RepL.getv {l : List P} {xs : List V} {i : Nat} {v : V} (h : RepL K cl G l xs) (e : xs[i]? = some v) : ∃ p, l[i]? = some p ∧ Rep K cl G p v := by
  have hl := h.len
  have hi : i < xs.length := (List.getElem?_eq_some_iff.mp e).1
  have hi2 : i < l.length := by omega
  obtain ⟨w, h1, h2⟩ := RepL.get (p := l[i]) h (List.getElem?_eq_getElem hi2)
  rw [e] at h1
  cases h1
  exact ⟨_, List.getElem?_eq_getElem hi2, h2⟩
theorem RepL.app : ∀ {l m : List P} {xs ys : List V}, RepL K cl G l xs → RepL K cl G m ys → RepL K cl G (l ++ m) (xs ++ ys)
  | [], _, _, _, h, k => by rw [show _ = [] from h]; exact k
  | p :: l, _, _, _, ⟨v, r, e, h, t⟩, k => by
    rw [e]
    exact ⟨v, r ++ _, rfl, h, RepL.app t k⟩
theorem RepL.one {p : P} {v : V} (h : Rep K cl G p v) : RepL K cl G [p] [v] := ⟨v, [], rfl, h, rfl⟩
theorem RepL.take : ∀ {l : List P} {xs : List V} (n : Nat), RepL K cl G l xs → RepL K cl G (l.take n) (xs.take n)
  | _, _, 0, _ => rfl
  | [], _, _ + 1, h => by rw [show _ = [] from h]; rfl
  | p :: l, _, n + 1, ⟨v, r, e, h, t⟩ => by
    rw [e]
    exact ⟨v, r.take n, rfl, h, RepL.take n t⟩
theorem RepL.drop : ∀ {l : List P} {xs : List V} (n : Nat), RepL K cl G l xs → RepL K cl G (l.drop n) (xs.drop n)
  | l, _, 0, h => h
  | [], _, _ + 1, h => by rw [show _ = [] from h]; rfl
  | p :: l, _, n + 1, ⟨v, r, e, h, t⟩ => by
    rw [e]
    exact RepL.drop n t
theorem RepL.set {p : P} {v : V} (hp : Rep K cl G p v) : ∀ {l : List P} {xs : List V} (n : Nat), RepL K cl G l xs → RepL K cl G (l.set n p) (xs.set n v)
  | [], _, _, h => by rw [show _ = [] from h]; rfl
  | q :: l, _, 0, ⟨w, r, e, h, t⟩ => by
    rw [e]
    exact ⟨v, r, rfl, hp, t⟩
  | q :: l, _, n + 1, ⟨w, r, e, h, t⟩ => by
    rw [e]
    exact ⟨w, r.set n v, rfl, h, RepL.set hp n t⟩
end

/-! ### the store and the heap -/
/-- the addresses of the boxes that live -/
def Liv (μ : List Addr) (S : Sto) (a : Addr) : Prop := ∃ (n : Nat) (o : O), μ[n]? = some a ∧ S[n]? = some (some o)
open Classical in
/-- the heap without the boxes that live, and without what is hidden -/
noncomputable def Gz (F : List Addr) (μ : List Addr) (S : Sto) (H : Hp) : Hp := fun a => if Liv μ S a ∨ a ∈ F then none else H a
theorem gz_of {F μ : List Addr} {S : Sto} {H : Hp} {a : Addr} (h : ¬ Liv μ S a) (hf : a ∉ F) : Gz F μ S H a = H a := if_neg fun z => z.elim h hf
theorem gz_some {F μ : List Addr} {S : Sto} {H : Hp} {a : Addr} {u : HO} (h : Gz F μ S H a = some u) : ¬ Liv μ S a ∧ a ∉ F ∧ H a = some u := by
  unfold Gz at h
  split at h
  · cases h
  · rename_i c
    exact ⟨fun z => c (.inl z), fun z => c (.inr z), h⟩
section
variable (K : PySem.W.Frag) (cl : Nat → Addr) (μ : List Addr) (G : Hp)
def RepD : D → V → Prop
  | .p x, v => Rep K cl G x v
  | .box n, v => ∃ a, v = .ref a ∧ μ[n]? = some a
def RepDL : List D → List V → Prop
  | [], xs => xs = []
  | p :: l, xs => ∃ v r, xs = v :: r ∧ RepD K cl μ G p v ∧ RepDL l r
/-- the names' values -/
def RepS (σ : St) (ρ : List (Option D)) : Prop := σ.length = ρ.length ∧ ∀ (i : Nat) (d : D), ρ[i]? = some (some d) → ∃ v, σ[i]? = some (some v) ∧ RepD K cl μ G d v
/-- a box's content -/
def ObjAt (H : Hp) (a : Addr) : O → Prop
  | .lst l => ∃ xs, H a = some (.lst xs) ∧ RepL K cl G l xs
  | .dk ks vs => ∃ kvs, H a = some (.dK kvs) ∧ kvs.map (·.1) = ks ∧ RepL K cl G vs (kvs.map (·.2))
  | .dt ks vs => ∃ kvs, H a = some (.dT kvs) ∧ kvs.map (·.1) = ks ∧ RepL K cl G vs (kvs.map (·.2))
  | .ins c ns vs => ∃ dx ys, H a = some (.ins (cl c) dx ys) ∧ ys.map (·.1) = ns ∧ RepDL K cl μ G vs (ys.map (·.2))
end
/-- the heap bears the store; F: what is hidden (lists that a comprehension fills) -/
structure Bears (K : PySem.W.Frag) (cl : Nat → Addr) (F : List Addr) (μ : List Addr) (H : Hp) (S : Sto) : Prop where
  len : μ.length = S.length
  nd : μ.Nodup
  obj : ∀ (n : Nat) (a : Addr) (o : O), μ[n]? = some a → S[n]? = some (some o) → ObjAt K cl μ (Gz F μ S H) H a o
  dom : ∀ (n : Nat) (a : Addr), μ[n]? = some a → H a ≠ none
  nf : ∀ (n : Nat) (a : Addr), μ[n]? = some a → a ∉ F
  hd : ∀ a ∈ F, H a ≠ none
/-- from one state to a later one -/
structure Fra (μ : List Addr) (S : Sto) (H : Hp) (μ' : List Addr) (S' : Sto) (H' : Hp) : Prop where
  pre : μ <+: μ'
  keep : ∀ a u, ¬ Liv μ S a → H a = some u → H' a = some u ∧ ¬ Liv μ' S' a
  dom : ∀ a, H a ≠ none → H' a ≠ none

section
variable {K : PySem.W.Frag} {cl : Nat → Addr} {F μ μ' μ1 μ2 : List Addr} {S S' S1 S2 : Sto} {H H' H1 H2 : Hp} {G G' : Hp}
theorem Fra.refl : Fra μ S H μ S H := ⟨List.prefix_refl _, fun _ _ a b => ⟨b, a⟩, fun _ h => h⟩
theorem Fra.trans (f : Fra μ S H μ1 S1 H1) (g : Fra μ1 S1 H1 μ2 S2 H2) : Fra μ S H μ2 S2 H2 :=
  ⟨List.IsPrefix.trans f.pre g.pre, fun a u h e => let ⟨e1, h1⟩ := f.keep a u h e; g.keep a u h1 e1, fun a h => g.dom a (f.dom a h)⟩
theorem Fra.gle (f : Fra μ S H μ' S' H') : Gle (Gz F μ S H) (Gz F μ' S' H') := Gle.of fun a u h => by
  obtain ⟨h1, hf, h2⟩ := gz_some h
  obtain ⟨h3, h4⟩ := f.keep a u h1 h2
  rw [gz_of h4 hf]
  exact h3
theorem pre_get {α : Type} {l l' : List α} (p : l <+: l') {i : Nat} {x : α} (h : l[i]? = some x) : l'[i]? = some x := by
  obtain ⟨t, rfl⟩ := p
  rw [List.getElem?_append_left (List.getElem?_eq_some_iff.mp h).1]
  exact h
theorem RepD.mono (p : μ <+: μ') (g : Gle G G') {d : D} {v : V} (h : RepD K cl μ G d v) : RepD K cl μ' G' d v := by
  cases d with
  | p x => exact Rep.mono g x v h
  | box n =>
    obtain ⟨a, e, h⟩ := h
    exact ⟨a, e, pre_get p h⟩
theorem RepDL.mono (p : μ <+: μ') (g : Gle G G') : ∀ {l : List D} {xs : List V}, RepDL K cl μ G l xs → RepDL K cl μ' G' l xs
  | [], _, h => h
  | d :: l, _, ⟨v, r, e, h, t⟩ => ⟨v, r, e, RepD.mono p g h, RepDL.mono p g t⟩
theorem RepDL.len : ∀ {l : List D} {xs : List V}, RepDL K cl μ G l xs → l.length = xs.length
  | [], _, h => by rw [show _ = [] from h]; rfl
  | p :: l, _, ⟨v, r, e, _, t⟩ => by rw [e, List.length_cons, List.length_cons, RepDL.len t]
theorem RepS.mono (p : μ <+: μ') (g : Gle G G') {σ : St} {ρ : List (Option D)} (h : RepS K cl μ G σ ρ) : RepS K cl μ' G' σ ρ :=
  ⟨h.1, fun i d e => let ⟨v, h1, h2⟩ := h.2 i d e; ⟨v, h1, RepD.mono p g h2⟩⟩
theorem RepS.set {σ : St} {ρ : List (Option D)} {i : Nat} {d : D} {v : V} (h : RepS K cl μ G σ ρ) (r : RepD K cl μ G d v) : RepS K cl μ G (σ.set i (some v)) (ρ.set i (some d)) := by
  refine ⟨by rw [List.length_set, List.length_set]; exact h.1, fun j e hj => ?_⟩
  by_cases c : i = j
  · subst c
    by_cases hl : i < ρ.length
    · rw [List.getElem?_set_self hl] at hj
      cases hj
      exact ⟨v, List.getElem?_set_self (by rw [h.1]; exact hl), r⟩
    · rw [List.getElem?_eq_none (by simpa using hl)] at hj
      cases hj
  · rw [List.getElem?_set_ne c] at hj ⊢
    exact h.2 j e hj
theorem RepS.forget {σ : St} {ρ : List (Option D)} {i : Nat} {o : Option V} (h : RepS K cl μ G σ ρ) : RepS K cl μ G (σ.set i o) (ρ.set i none) := by
  refine ⟨by rw [List.length_set, List.length_set]; exact h.1, fun j e hj => ?_⟩
  by_cases c : i = j
  · subst c
    by_cases hl : i < ρ.length
    · rw [List.getElem?_set_self hl] at hj
      cases hj
    · rw [List.getElem?_eq_none (by simpa using hl)] at hj
      cases hj
  · rw [List.getElem?_set_ne c] at hj ⊢
    exact h.2 j e hj
theorem ObjAt.mono (p : μ <+: μ') (g : Gle G G') (k : ∀ u, H a = some u → H' a = some u) {o : O} (q : ObjAt K cl μ G H a o) : ObjAt K cl μ' G' H' a o := by
  cases o with
  | lst l => obtain ⟨xs, e, r⟩ := q; exact ⟨xs, k _ e, RepL.mono g l xs r⟩
  | dk ks vs => obtain ⟨kvs, e, kk, r⟩ := q; exact ⟨kvs, k _ e, kk, RepL.mono g vs _ r⟩
  | dt ks vs => obtain ⟨kvs, e, kk, r⟩ := q; exact ⟨kvs, k _ e, kk, RepL.mono g vs _ r⟩
  | ins c ns vs => obtain ⟨dx, ys, e, kk, r⟩ := q; exact ⟨dx, ys, k _ e, kk, RepDL.mono p g r⟩
theorem upd_keep {p : Addr} {o : HO} (hp : H p = none) : ∀ a u, H a = some u → (upd H p o) a = some u := fun a u e => by rw [upd_ne (ne_of_none e hp)]; exact e
theorem dom_of (keep : ∀ a u, H a = some u → H' a = some u) : ∀ a, H a ≠ none → H' a ≠ none := fun a h => by
  cases e : H a with
  | none => exact absurd e h
  | some u => rw [keep a u e]; exact fun z => by cases z
/-- the heap grows: nothing changes for the store -/
theorem Bears.grow (b : Bears K cl F μ H S) (keep : ∀ a u, H a = some u → H' a = some u) : Bears K cl F μ H' S ∧ Fra μ S H μ S H' := by
  have fr : Fra μ S H μ S H' := ⟨List.prefix_refl _, fun a u h e => ⟨keep a u e, h⟩, dom_of keep⟩
  exact ⟨⟨b.len, b.nd, fun n a x hn hs => (b.obj n a x hn hs).mono fr.pre fr.gle fun u e => keep a u e, fun n a hn => fr.dom a (b.dom n a hn), b.nf, fun a h => fr.dom a (b.hd a h)⟩, fr⟩
theorem Bears.fresh (b : Bears K cl F μ H S) {p : Addr} {o : HO} (hp : H p = none) : Bears K cl F μ (upd H p o) S ∧ Fra μ S H μ S (upd H p o) := b.grow (upd_keep hp)
/-- a fresh place is no box's -/
theorem Bears.nobox (b : Bears K cl F μ H S) {p : Addr} (hp : H p = none) : p ∉ μ := fun h => by
  obtain ⟨n, hn⟩ := List.mem_iff_getElem?.mp h
  exact b.dom n p hn hp
theorem Bears.noliv (b : Bears K cl F μ H S) {p : Addr} (hp : H p = none) : ¬ Liv μ S p := fun ⟨n, o, h, _⟩ => b.dom n p h hp
theorem liv_set {n : Nat} {o : Option O} {a : Addr} (h : Liv μ (S.set n o) a) : Liv μ S a ∨ (μ[n]? = some a ∧ o ≠ none) := by
  obtain ⟨m, x, h1, h2⟩ := h
  by_cases c : n = m
  · subst c
    by_cases hl : n < S.length
    · rw [List.getElem?_set_self hl] at h2
      cases h2
      exact .inr ⟨h1, fun z => by cases z⟩
    · rw [List.getElem?_eq_none (by simpa using hl)] at h2
      cases h2
  · rw [List.getElem?_set_ne c] at h2
    exact .inl ⟨m, x, h1, h2⟩
theorem nd_eq (nd : μ.Nodup) {n m : Nat} {a : Addr} (h : μ[n]? = some a) (h' : μ[m]? = some a) : n = m :=
  (List.getElem?_inj (List.getElem?_eq_some_iff.mp h).1 nd).mp (h.trans h'.symm)
/-- data alone -/
def pureD : List D → Option (List P)
  | [] => some []
  | .p x :: r => (pureD r).map (x :: ·)
  | .box _ :: _ => none
/-- a box's content as data -/
def cont : O → Option P
  | .lst l => some (.lst l)
  | .dk ks vs => some (.dk ks vs)
  | .dt ks vs => some (.dt ks vs)
  | .ins c ns vs => (pureD vs).map fun ws => .ins c ns ws
theorem repDL_pure : ∀ {vs : List D} {ws : List P} {xs : List V}, pureD vs = some ws → RepDL K cl μ G vs xs → RepL K cl G ws xs
  | [], ws, xs, h, r => by
    cases h
    exact r
  | .box n :: vs, ws, xs, h, r => by cases h
  | .p x :: vs, ws, xs, h, r => by
    obtain ⟨v, t, e, h1, h2⟩ := r
    have h' : (pureD vs).map (x :: ·) = some ws := h
    cases hm : pureD vs with
    | none => rw [hm] at h'; cases h'
    | some ws' =>
      rw [hm] at h'
      cases h'
      exact ⟨v, t, e, h1, repDL_pure hm h2⟩
/-- the box's content is let go: it is data from now on -/
theorem Bears.freeze (b : Bears K cl F μ H S) {n : Nat} {a : Addr} {o : O} {p : P} (hn : μ[n]? = some a) (hs : S[n]? = some (some o)) (hc : cont o = some p) :
    Bears K cl F μ H (S.set n none) ∧ Fra μ S H μ (S.set n none) H ∧ Rep K cl (Gz F μ (S.set n none) H) p (.ref a) := by
  have lv : ∀ c, Liv μ (S.set n none) c → Liv μ S c := fun c h => (liv_set h).elim id fun z => absurd rfl z.2
  have fr : Fra μ S H μ (S.set n none) H := ⟨List.prefix_refl _, fun c u h e => ⟨e, fun z => h (lv c z)⟩, fun _ h => h⟩
  have nl : ¬ Liv μ (S.set n none) a := fun ⟨m, x, h1, h2⟩ => by
    obtain rfl := nd_eq b.nd hn h1
    rw [List.getElem?_set_self (List.getElem?_eq_some_iff.mp hs).1] at h2
    cases h2
  have ga : ∀ u, H a = some u → Gz F μ (S.set n none) H a = some u := fun u e => by rw [gz_of nl (b.nf n a hn)]; exact e
  refine ⟨⟨by rw [List.length_set]; exact b.len, b.nd, fun m c x hm hx => ?_, b.dom, b.nf, b.hd⟩, fr, ?_⟩
  · have hx' : S[m]? = some (some x) := by
      by_cases c : n = m
      · subst c
        rw [List.getElem?_set_self (List.getElem?_eq_some_iff.mp hs).1] at hx
        cases hx
      · rwa [List.getElem?_set_ne c] at hx
    exact (b.obj m c x hm hx').mono fr.pre fr.gle fun _ e => e
  · have q := (b.obj n a o hn hs).mono fr.pre (fr.gle (F := F)) fun _ e => e
    cases o with
    | lst l => cases hc; obtain ⟨xs, e, r⟩ := q; exact ⟨a, xs, rfl, ga _ e, r⟩
    | dk ks vs => cases hc; obtain ⟨kvs, e, k, r⟩ := q; exact ⟨a, kvs, rfl, .inl (ga _ e), k, r⟩
    | dt ks vs => cases hc; obtain ⟨kvs, e, k, r⟩ := q; exact ⟨a, kvs, rfl, .inl (ga _ e), k, r⟩
    | ins c ns vs =>
      obtain ⟨dx, ys, e, k, r⟩ := q
      simp only [cont] at hc
      cases hm : pureD vs with
      | none => rw [hm] at hc; cases hc
      | some ws => rw [hm] at hc; cases hc; exact ⟨a, dx, ys, rfl, ga _ e, k, repDL_pure hm r⟩
theorem liv_app {a c : Addr} {o : Option O} (hl : μ.length = S.length) (h : Liv (μ ++ [c]) (S ++ [o]) a) : Liv μ S a ∨ a = c := by
  obtain ⟨m, x, h1, h2⟩ := h
  by_cases hm : m < μ.length
  · rw [List.getElem?_append_left hm] at h1
    rw [List.getElem?_append_left (by omega)] at h2
    exact .inl ⟨m, x, h1, h2⟩
  · rw [List.getElem?_append_right (by omega)] at h1
    have := (List.getElem?_eq_some_iff.mp h1).2
    simp at this
    exact .inr this.symm
/-- what stands at a fresh place becomes a box -/
theorem Bears.boxed (b : Bears K cl F μ H S) {a : Addr} {o : O} (k : ∀ c u, H c = some u → H' c = some u) (ha : H a = none) (ha' : H' a ≠ none) (hf : a ∉ F) (q : ObjAt K cl μ (Gz F μ S H) H' a o) :
    Bears K cl F (μ ++ [a]) H' (S ++ [some o]) ∧ Fra μ S H (μ ++ [a]) (S ++ [some o]) H' := by
  have fr : Fra μ S H (μ ++ [a]) (S ++ [some o]) H' := ⟨List.prefix_append _ _, fun c u h e => ⟨k c u e, fun z => (liv_app b.len z).elim h fun z => by rw [z, ha] at e; cases e⟩, dom_of k⟩
  have nb := b.nobox ha
  refine ⟨⟨by simp [b.len], ?_, fun m c x hm hx => ?_, fun m c hm => ?_, fun m c hm => ?_, fun c h => fr.dom c (b.hd c h)⟩, fr⟩
  · rw [List.nodup_append]
    exact ⟨b.nd, by simp, fun x hx y hy => by simp at hy; subst hy; exact fun z => nb (z ▸ hx)⟩
  · by_cases h : m < μ.length
    · rw [List.getElem?_append_left h] at hm
      rw [List.getElem?_append_left (by have := b.len; omega)] at hx
      exact (b.obj m c x hm hx).mono fr.pre fr.gle fun u e => k c u e
    · rw [List.getElem?_append_right (by omega)] at hm
      rw [List.getElem?_append_right (by have := b.len; omega)] at hx
      have h1 := (List.getElem?_eq_some_iff.mp hm).2
      have h2 := (List.getElem?_eq_some_iff.mp hx).2
      simp at h1 h2
      subst h1; subst h2
      exact q.mono fr.pre fr.gle fun _ e => e
  · by_cases h : m < μ.length
    · rw [List.getElem?_append_left h] at hm
      exact fr.dom c (b.dom m c hm)
    · rw [List.getElem?_append_right (by omega)] at hm
      have h1 := (List.getElem?_eq_some_iff.mp hm).2
      simp at h1
      subst h1
      exact ha'
  · by_cases h : m < μ.length
    · rw [List.getElem?_append_left h] at hm
      exact b.nf m c hm
    · rw [List.getElem?_append_right (by omega)] at hm
      have h1 := (List.getElem?_eq_some_iff.mp hm).2
      simp at h1
      subst h1
      exact hf
/-- a box's content is changed -/
theorem Bears.write (b : Bears K cl F μ H S) {n : Nat} {a : Addr} {o x : O} {u : HO} (hn : μ[n]? = some a) (hs : S[n]? = some (some o)) (q : ObjAt K cl μ (Gz F μ S H) (upd H a u) a x) :
    Bears K cl F μ (upd H a u) (S.set n (some x)) ∧ Fra μ S H μ (S.set n (some x)) (upd H a u) := by
  have hla : Liv μ S a := ⟨n, o, hn, hs⟩
  have lv : ∀ c, Liv μ (S.set n (some x)) c → Liv μ S c := fun c h => (liv_set h).elim id fun z => by
    have e : a = c := Option.some.inj (hn.symm.trans z.1)
    exact e ▸ hla
  have fr : Fra μ S H μ (S.set n (some x)) (upd H a u) := ⟨List.prefix_refl _, fun c w h e => ⟨by rw [upd_ne (show c ≠ a from fun z => h (by rw [z]; exact hla))]; exact e, fun z => h (lv c z)⟩, fun c h => by
    by_cases e : c = a
    · rw [e, upd_same]; exact fun z => by cases z
    · rw [upd_ne e]; exact h⟩
  refine ⟨⟨by rw [List.length_set]; exact b.len, b.nd, fun m c y hm hy => ?_, fun m c hm => fr.dom c (b.dom m c hm), b.nf, fun c h => fr.dom c (b.hd c h)⟩, fr⟩
  by_cases e : n = m
  · subst e
    rw [List.getElem?_set_self (List.getElem?_eq_some_iff.mp hs).1] at hy
    cases hy
    obtain rfl : a = c := Option.some.inj (hn.symm.trans hm)
    exact q.mono fr.pre fr.gle fun _ e => e
  · rw [List.getElem?_set_ne e] at hy
    refine (b.obj m c y hm hy).mono fr.pre fr.gle fun w e2 => ?_
    rw [upd_ne (show c ≠ a from fun z => e (nd_eq b.nd hn (by rw [← z]; exact hm)))]
    exact e2
end
end PD
/-! The little language: expressions, tests, statements over plain data and boxes, and what they do. -/
namespace PD
open PySem L2

inductive Ty where
  | int | bool | str | tup | lst | dict | none | cls (c : Nat)
deriving DecidableEq
inductive Op1 where
  | neg | abs | len | int | list | tuple | isN | notN | not | sortedI | itemsL | str | all | any | rev | isA (n : Nat) (l : List Ty)
inductive Op2 where
  | add | sub | mul | fdiv | mod | pow | eq | ne | lt | le | gt | ge | mem | nmem | ix
deriving DecidableEq
inductive Mt where
  | append | extend | remove
inductive Tg where
  | nm (i : Nat) | tp (l : List Nat)
mutual
inductive IE where
  | var (i : Nat) | cst (p : P)
  | o1 (o : Op1) (a : IE) | o2 (o : Op2) (a b : IE)
  | get (a b c : IE) | slice (a : IE) (bl bh : Bool) (lo hi : IE)
  | and (a b : IE) | or (a b : IE) | ifx (c : IT) (a b : IE)
  | chain (o p : Op2) (a b c : IE)
  | tup (l : IL) | lst (bx : Bool) (l : IL) | dnew
  | call (fz : Bool) (i : Nat) (dfl : List P) (l : IL)
  | meth (fz : Bool) (c : Nat) (m : Str) (i : Nat) (l : IL)
  | own1 (c i : Nat) (a : IE) | own2 (c i : Nat) (a b : IE) | ne (c i : Nat) (a b : IE) | isin (c i : Nat) (x o : IE)
  | mk (fz : Bool) (c i : Nat) (dfl : List P) (l : IL)
  | fld (c : Nat) (f : Str) (e : IE)
  | mut (m : Mt) (o a : IE)
  | lc (bx : Bool) (own : List Nat) (elt : IE) (tg : Tg) (src : Src) (cond : IT)
  | dc (bx : Bool) (own : List Nat) (k v : IE) (tg : Tg) (src : Src) (cond : IT)
inductive IT where
  | tt | tr (e : IE) | not (t : IT) | and (t u : IT) | or (t u : IT)
inductive IL where
  | nil | cons (e : IE) (l : IL)
inductive Src where
  | seq (e : IE) | rng1 (e : IE) | rng2 (a b : IE) | items (e : IE) | enum (e : IE) | zip (a b : IE)
end
mutual
inductive IS where
  | set (t : Tg) (e : IE)
  | par (i j : Nat) (a b : IE)
  | par3 (i j l : Nat) (a b c : IE)
  | aug (o : Op2) (i : Nat) (e : IE)
  | auge (i : Nat) (e : IE)
  | ixset (o k v : IE)
  | ixaug (q : Op2) (o k v : IE)
  | fset (c : Nat) (f : Str) (o v : IE)
  | ex (e : IE)
  | iff (c : IT) (a b : IB) | whl (c : IT) (b : IB) | for_ (tg : Tg) (src : Src) (b : IB)
  | ret (fz : Bool) (e : IE) | retN | pass | bad
inductive IB where
  | nil | cons (s : IS) (b : IB)
end

/-! ### results -/
inductive Res (α : Type) where
  | ok (a : α) (S : Sto) | rse (c : Nat) (ns : List Str) (vs : List P) (S : Sto) | bad
def Res.bind {α β : Type} (r : Res α) (f : α → Sto → Res β) : Res β := match r with
  | .ok a S => f a S
  | .rse c ns vs S => .rse c ns vs S
  | .bad => .bad
def optR {α : Type} (o : Option α) (S : Sto) : Res α := match o with
  | some a => .ok a S
  | none => .bad

/-! ### operations on data -/
def P.flat : P → Bool
  | .non | .bl _ | .int _ | .str _ => true
  | _ => false
mutual
def toPD : P → Option PyData
  | .non => some .none
  | .bl b => some (.bool b)
  | .int i => some (.int i)
  | .str s => some (.str s)
  | .tup l => (toPDs l).map .tuple
  | .lst l => (toPDs l).map .list
  | .ktup l => (toPDs l).map .tuple
  | .fls l => (toPDs l).map .list
  | .dk _ _ | .dt _ _ | .ins _ _ _ => none
def toPDs : List P → Option (List PyData)
  | [] => some []
  | p :: l => match toPD p, toPDs l with
    | some d, some ds => some (d :: ds)
    | _, _ => none
end
/-- data that == tells -/
def dataOf (p : P) : Option PyData := match toPD p with
  | some d => if SeqAt.shaped d = true then some d else none
  | none => none
def datas : List P → Option (List PyData)
  | [] => some []
  | p :: l => match dataOf p, datas l with
    | some d, some ds => some (d :: ds)
    | _, _ => none
/-- what stands under a key -/
def look {κ α : Type} [DecidableEq κ] : List κ → List α → κ → Option α
  | k :: ks, v :: vs, x => if k = x then some v else look ks vs x
  | _, _, _ => none
/-- the items of one dict against another one -/
def dEq (ks' : List Key) (es : List PyData) : List Key → List PyData → Bool
  | k :: ks, d :: ds => match look ks' es k with
    | some e => PyData.eqv d e && dEq ks' es ks ds
    | none => false
  | _, _ => true
def pyEqD (a b : P) : Option Bool := match dataOf a, dataOf b with
  | some d, some e => some (PyData.eqv d e)
  | _, _ => none
def pyEq (a b : P) : Option Bool := match a, b with
  | .dk ks vs, .dk ks' vs' => match datas vs, datas vs' with
    | some ds, some es => some (ks.length == ks'.length && dEq ks' es ks ds)
    | _, _ => none
  | a, b => match dataOf a, dataOf b with
    | some d, some e => some (PyData.eqv d e)
    | _, _ => none
def keyOf : P → Option Key
  | .int i => some (.inl i)
  | .str s => some (.inr s)
  | _ => none
def keysOf : List P → Option (List Key)
  | [] => some []
  | p :: l => match keyOf p, keysOf l with
    | some k, some ks => some (k :: ks)
    | _, _ => none
def tkeyOf : P → Option (List Key)
  | .tup l => keysOf l
  | _ => none
def ofKey : Key → P
  | .inl i => .int i
  | .inr s => .str s
/-- a key's value put: in its place or behind -/
def putv {κ : Type} [DecidableEq κ] (ks : List κ) (vs : List P) (x : κ) (v : P) : List κ × List P :=
  if x ∈ ks then (ks, (ks.zip vs).map fun kv => if kv.1 = x then v else kv.2) else (ks ++ [x], vs ++ [v])
def hasK {κ : Type} [DecidableEq κ] (ks : List κ) (x : κ) : Bool := decide (x ∈ ks)
def inList (x : P) (l : List P) : Option Bool := match dataOf x, datas l with
  | some d, some ds => some (ds.any fun e => PyData.eqv e d)
  | _, _ => none
def isTy (p : P) (t : Ty) : Bool := match p, t with
  | .int _, .int => true
  | .bl _, .int => true
  | .bl _, .bool => true
  | .str _, .str => true
  | .tup _, .tup => true
  | .lst _, .lst => true
  | .dk _ _, .dict => true
  | .dt _ _, .dict => true
  | .ins c _ _, .cls c' => c == c'
  | _, _ => false
def intsOf : List P → Option (List Int)
  | [] => some []
  | .int i :: l => (intsOf l).map (i :: ·)
  | _ :: _ => none
def boolsOf : List P → Option (List Bool)
  | [] => some []
  | .bl i :: l => (boolsOf l).map (i :: ·)
  | _ :: _ => none
def ikeys : List Key → Option (List Int)
  | [] => some []
  | .inl i :: l => (ikeys l).map (i :: ·)
  | .inr _ :: _ => none
def prim1 (o : Op1) (a : P) : Option P := match o, a with
  | .neg, .int i => some (.int (-i))
  | .abs, .int i => some (.int (if i < 0 then -i else i))
  | .len, .str s => if s.length ≤ sizeLine then some (.int s.length) else none
  | .len, .lst l => some (.int l.length)
  | .len, .tup l => some (.int l.length)
  | .len, .fls l => some (.int l.length)
  | .len, .ktup l => some (.int l.length)
  | .len, .dk ks _ => some (.int ks.length)
  | .int, .int i => some (.int i)
  | .int, .bl b => some (.int (if b then 1 else 0))
  | .list, .lst l => some (.lst l)
  | .list, .tup l => some (.lst l)
  | .list, .fls l => some (.lst l)
  | .list, .ktup l => some (.lst l)
  | .tuple, .lst l => some (.tup l)
  | .tuple, .tup l => some (.tup l)
  | .tuple, .fls l => some (.tup l)
  | .isN, .non => some (.bl true)
  | .isN, _ => some (.bl false)
  | .notN, .non => some (.bl false)
  | .notN, _ => some (.bl true)
  | .not, .bl b => some (.bl (!b))
  | .sortedI, .lst l => match intsOf l with
    | some ns => if ns.length < 64 then some (.lst ((ns.mergeSort (fun a b => decide (a ≤ b))).map .int)) else none
    | none => none
  | .sortedI, .dk ks _ => match ikeys ks with
    | some ns => if ns.length < 64 then some (.lst ((ns.mergeSort (fun a b => decide (a ≤ b))).map .int)) else none
    | none => none
  | .itemsL, .dk ks vs => some (.lst ((ks.zip vs).map fun kv => .tup [ofKey kv.1, kv.2]))
  | .str, .int i => if i.natAbs.log2 < 1920 then some (.str (toString i)) else none
  | .all, .lst l => (boolsOf l).map fun bs => .bl (bs.all id)
  | .any, .lst l => (boolsOf l).map fun bs => .bl (bs.any id)
  | .rev, .lst l => some (.lst l.reverse)
  | .rev, .fls l => some (.lst l.reverse)
  | .isA _ _, .fls _ => none
  | .isA _ _, .ktup _ => none
  | .isA _ _, .dt _ _ => none
  | .isA n ts, .ins c ns vs => if c < n then some (.bl (ts.any (isTy (.ins c ns vs)))) else none
  | .isA _ ts, a => some (.bl (ts.any (isTy a)))
  | _, _ => none
def prim2 (o : Op2) (a b : P) : Option P := match o, a, b with
  | .add, .int i, .int j => some (.int (i + j))
  | .add, .str s, .str t => if s.length + t.length ≤ sizeLine then some (.str (s ++ t)) else none
  | .add, .lst l, .lst m => if l.length + m.length ≤ sizeLine then some (.lst (l ++ m)) else none
  | .add, .tup l, .tup m => if l.length + m.length ≤ sizeLine then some (.tup (l ++ m)) else none
  | .sub, .int i, .int j => some (.int (i - j))
  | .mul, .int i, .int j => if i.natAbs.log2 + j.natAbs.log2 < 1000000 then some (.int (i * j)) else none
  | .mul, .lst l, .int k => if -(2 ^ 63) ≤ k ∧ k < 2 ^ 63 ∧ l.length * k.toNat ≤ sizeLine then some (.lst (List.replicate k.toNat l).flatten) else none
  | .fdiv, .int i, .int j => if 0 < j ∧ j.natAbs.log2 < 9000 then some (.int (i / j)) else none
  | .mod, .int i, .int j => if 0 < j then some (.int (i % j)) else if j ≠ 0 then some (.int (i.fmod j)) else none
  | .pow, .int i, .int j => if 0 ≤ j ∧ j ≤ 1000000 ∧ i.natAbs < 2 ^ 64 then some (.int (i ^ j.toNat)) else none
  | .eq, a, b => (pyEq a b).map .bl
  | .ne, a, b => (pyEqD a b).map fun r => .bl (!r)
  | .lt, .int i, .int j => some (.bl (decide (i < j)))
  | .le, .int i, .int j => some (.bl (decide (i ≤ j)))
  | .gt, .int i, .int j => some (.bl (decide (j < i)))
  | .ge, .int i, .int j => some (.bl (decide (j ≤ i)))
  | .mem, x, .lst l => (inList x l).map .bl
  | .mem, x, .tup l => (inList x l).map .bl
  | .mem, x, .fls l => (inList x l).map .bl
  | .mem, x, .ktup l => (inList x l).map .bl
  | .mem, x, .dk ks vs => (keyOf x).map fun k => .bl (hasK ks k)
  | .nmem, x, .lst l => (inList x l).map fun r => .bl (!r)
  | .nmem, x, .tup l => (inList x l).map fun r => .bl (!r)
  | .nmem, x, .fls l => (inList x l).map fun r => .bl (!r)
  | .nmem, x, .ktup l => (inList x l).map fun r => .bl (!r)
  | .nmem, x, .dk ks vs => (keyOf x).map fun k => .bl (!hasK ks k)
  | .ix, .lst l, .int i => atI l i
  | .ix, .tup l, .int i => atI l i
  | .ix, .fls l, .int i => atI l i
  | .ix, .ktup l, .int i => atI l i
  | .ix, .str s, .int i => if s.length ≤ sizeLine then (atI s.cps.toList i).map fun c => .str ⟨#[c]⟩ else none
  | .ix, .dk ks vs, x => (keyOf x).bind (look ks vs)
  | .ix, .dt ks vs, x => (tkeyOf x).bind (look ks vs)
  | _, _, _ => none
/-- a slice's end: there (an int), or not -/
def partOf (b : Bool) (d : D) : Option (Option Int) := if b then (match d with
  | .p (.int i) => some (some i)
  | _ => none) else some none
def cutP (l : List P) (lo hi : Option Int) : List P := (l.drop (HT.sIx l.length 0 lo)).take (HT.sIx l.length l.length hi - HT.sIx l.length 0 lo)
def getP (a b c : P) : Option P := match a with
  | .dk ks vs => (keyOf b).map fun k => (look ks vs k).getD c
  | .dt ks vs => (tkeyOf b).map fun k => (look ks vs k).getD c
  | _ => none
def sliceP (a : P) (lo hi : Option Int) : Option P := match a with
  | .lst l => some (.lst (cutP l lo hi))
  | .fls l => some (.lst (cutP l lo hi))
  | .tup l => some (.tup (cutP l lo hi))
  | _ => none
def isDict : P → Bool
  | .dk _ _ => true
  | .dt _ _ => true
  | _ => false

/-! ### boxes -/
def view (S : Sto) : D → Option P
  | .p x => some x
  | .box n => match S[n]? with
    | some (some o) => cont o
    | _ => none
/-- a box let go, data as it is -/
def frz (S : Sto) : D → Res P
  | .p x => .ok x S
  | .box n => match S[n]? with
    | some (some o) => optR (cont o) (S.set n none)
    | _ => .bad
def frzL (S : Sto) : List D → Res (List P)
  | [] => .ok [] S
  | d :: l => (frz S d).bind fun p S => (frzL S l).bind fun ps S => .ok (p :: ps) S
def boxIf (bx : Bool) (o : O) (S : Sto) : Res D := if bx then .ok (.box S.length) (S ++ [some o]) else optR ((cont o).map .p) S
def truth : P → Option Bool
  | .non => some false
  | .bl b => some b
  | .int i => some (i != 0)
  | .str s => if s.length ≤ sizeLine then some ((s.length : Int) != 0) else none
  | .tup l | .lst l | .ktup l | .fls l => some (!l.isEmpty)
  | _ => none
/-- names of a target -/
def wipeR (ρ : List (Option D)) : List Nat → List (Option D)
  | [] => ρ
  | v :: vs => (wipeR ρ vs).set v none
def setAll (ρ : List (Option D)) : List Nat → List P → Option (List (Option D))
  | [], [] => some ρ
  | i :: is, p :: ps => setAll (ρ.set i (some (.p p))) is ps
  | _, _ => none
def setTg (t : Tg) (x : P) (ρ : List (Option D)) : Option (List (Option D)) := match t, x with
  | .nm i, x => some (ρ.set i (some (.p x)))
  | .tp is, .tup l => setAll ρ is l
  | .tp is, .lst l => setAll ρ is l
  | _, _ => none
/-- the first item that is equal, taken away -/
def removeP (x : P) : List P → Option (List P)
  | [] => none
  | p :: l => match pyEq p x with
    | some true => some l
    | some false => (removeP x l).map (p :: ·)
    | none => none
/-- x op= y of what never changes -/
def augP (o : Op2) (x y : P) : Option P := match x, y with
  | .int _, .int _ => (match o with
    | .add | .sub | .mul | .mod => prim2 o x y
    | _ => none)
  | .str _, .str _ => (match o with
    | .add => prim2 o x y
    | _ => none)
  | _, _ => none
def mutO (m : Mt) (o : O) (x : P) : Option O := match m, o, x with
  | .append, .lst l, x => if l.length < sizeLine then some (.lst (l ++ [x])) else none
  | .extend, .lst l, .lst m => if l.length + m.length ≤ sizeLine then some (.lst (l ++ m)) else none
  | .remove, .lst l, x => (removeP x l).map .lst
  | _, _, _ => none
def setO (o : O) (k x : P) : Option O := match o with
  | .lst l => match k with
    | .int i => (ixN l.length i).map fun j => .lst (l.set j x)
    | _ => none
  | .dk ks vs => (keyOf k).bind fun k => if ks.length < sizeLine then some (.dk (putv ks vs k x).1 (putv ks vs k x).2) else none
  | .dt ks vs => (tkeyOf k).bind fun k => if ks.length < sizeLine then some (.dt (putv ks vs k x).1 (putv ks vs k x).2) else none
  | _ => none
def rng (lo hi : Int) : List P := (List.range (hi - lo).toNat).map fun (k : Nat) => .int (lo + (k : Int))
def small62 (i : Int) : Bool := decide (-(2 ^ 62) ≤ i) && decide (i < 2 ^ 62)
/-- a comprehension's turns -/
def turns (step : P → Sto → Res (Option P)) : List P → List P → Sto → Res (List P)
  | [], acc, S => .ok acc S
  | x :: r, acc, S => (step x S).bind fun y S' => match y with
    | some y => if acc.length < sizeLine then turns step r (acc ++ [y]) S' else .bad
    | none => turns step r acc S'
def turnsD (step : P → Sto → Res (Option (Key × P))) : List P → List Key → List P → Sto → Res (List Key × List P)
  | [], ks, vs, S => .ok (ks, vs) S
  | x :: r, ks, vs, S => (step x S).bind fun y S' => match y with
    | some (k, v) => if ks.length < sizeLine then turnsD step r (putv ks vs k v).1 (putv ks vs k v).2 S' else .bad
    | none => turnsD step r ks vs S'
/-- a turn -/
def stepL (own : List Nat) (tg : Tg) (fc : List (Option D) → Sto → Res Bool) (fe : List (Option D) → Sto → Res D) (ρ : List (Option D)) : P → Sto → Res (Option P) := fun x S => match setTg tg x (wipeR ρ own) with
  | some ρ' => (fc ρ' S).bind fun t S => if t then (fe ρ' S).bind fun d S => (frz S d).bind fun p S => .ok (some p) S else .ok none S
  | none => .bad
def stepD (own : List Nat) (tg : Tg) (fc : List (Option D) → Sto → Res Bool) (fk fv : List (Option D) → Sto → Res D) (ρ : List (Option D)) : P → Sto → Res (Option (Key × P)) := fun x S => match setTg tg x (wipeR ρ own) with
  | some ρ' => (fc ρ' S).bind fun t S => if t then (fk ρ' S).bind fun d S => (fv ρ' S).bind fun e S => (frz S e).bind fun p S => match d with
      | .p q => match keyOf q with
        | some q => .ok (some (q, p)) S
        | none => .bad
      | _ => .bad else .ok none S
  | none => .bad
/-- no error leaves -/
def calm {α : Type} (r : Res α) : Res α := match r with
  | .rse .. => .bad
  | r => r
def isLst (S : Sto) : D → Bool
  | .box n => match S[n]? with
    | some (some (.lst _)) => true
    | _ => false
  | .p _ => false
/-- an instance: what its class is -/
def isIns (c : Nat) (S : Sto) : D → Bool
  | .p (.ins c' _ _) => c == c'
  | .p _ => false
  | .box n => match S[n]? with
    | some (some (.ins c' _ _)) => c == c'
    | _ => false
/-- no attribute of this name -/
def noAttr (S : Sto) (m : Str) : D → Bool
  | .p (.ins _ ns _) => !hasK ns m
  | .p _ => false
  | .box n => match S[n]? with
    | some (some (.ins _ ns _)) => !hasK ns m
    | _ => false
def fieldOf (S : Sto) (f : Str) : D → Option D
  | .p (.ins _ ns vs) => (look ns vs f).map .p
  | .p _ => none
  | .box n => match S[n]? with
    | some (some (.ins _ ns vs)) => (ns.zip vs).lookup f
    | _ => none

/-! ### calls: what a def does with its arguments, data or boxes' contents -/
inductive Arg where
  | p (x : P) | o (x : O)
/-- a def's end: what it gives (data, or a new thing of its own), the boxes' contents behind it -/
inductive LR where
  | ok (r : Arg) (os : List O) | rse (c : Nat) (ns : List Str) (vs : List P) (os : List O) | bad
def numA (k : Nat) : List Arg → List D
  | [] => []
  | .p x :: l => .p x :: numA k l
  | .o _ :: l => .box k :: numA (k + 1) l
def boxesA : List Arg → Sto
  | [] => []
  | .p _ :: l => boxesA l
  | .o o :: l => some o :: boxesA l
def toArgs (S : Sto) : List D → Option (List Arg × List Nat)
  | [] => some ([], [])
  | .p x :: l => (toArgs S l).map fun r => (.p x :: r.1, r.2)
  | .box n :: l => match S[n]? with
    | some (some o) => (toArgs S l).map fun r => (.o o :: r.1, n :: r.2)
    | _ => none
def setOuts (S : Sto) : List Nat → List O → Sto
  | n :: ns, o :: os => (setOuts S ns os).set n (some o)
  | _, _ => S
/-- no box within -/
def O.pure : O → Bool
  | .ins _ _ vs => (pureD vs).isSome
  | _ => true
/-- a box's content without boxes -/
def purO : Option O → Bool
  | some o => o.pure
  | none => true
def callA (f : List Arg → LR) (ds : List D) (S : Sto) : Res D := match toArgs S ds with
  | none => .bad
  | some (as, ns) => if ns.Nodup ∧ (boxesA as).all purO = true then match f as with
      | .ok (.p r) os => if os.length = ns.length ∧ os.all O.pure = true then .ok (.p r) (setOuts S ns os) else .bad
      | .ok (.o o) os => if os.length = ns.length ∧ os.all O.pure = true ∧ o.pure = true then .ok (.box S.length) (setOuts S ns os ++ [some o]) else .bad
      | .rse c xs vs os => if os.length = ns.length ∧ os.all O.pure = true then .rse c xs vs (setOuts S ns os) else .bad
      | .bad => .bad
    else .bad
/-- C(..): what a constructor does -/
def mkF (fz : Bool) (c : Nat) (Fn : List Arg → LR) (qs : List P) (S : Sto) : Res D := match Fn (.o (.ins c [] []) :: qs.map .p) with
  | .ok (.p .non) [o] => if o.pure then boxIf (!fz) o S else .bad
  | .rse c xs vs [o] => if o.pure then .rse c xs vs S else .bad
  | _ => .bad
section
variable (Φ : Nat → List Arg → LR)
abbrev Ev := List (Option D) → Sto → Res D
mutual
def ev : IE → List (Option D) → Sto → Res D
  | .var i => fun ρ S => match ρ[i]? with
    | some (some d) => .ok d S
    | _ => .bad
  | .cst p => fun _ S => .ok (.p p) S
  | .o1 o a => fun ρ S => (ev a ρ S).bind fun d S => optR ((view S d).bind fun x => (prim1 o x).map .p) S
  | .o2 o a b => fun ρ S => (ev a ρ S).bind fun d S => (ev b ρ S).bind fun e S =>
      optR ((view S d).bind fun x => (view S e).bind fun y => (prim2 o x y).map .p) S
  | .get a b c => fun ρ S => (ev a ρ S).bind fun d S => if ((view S d).map isDict) = some true then (ev b ρ S).bind fun e S => (ev c ρ S).bind fun g S =>
      match g with
      | .p z => optR ((view S d).bind fun x => (view S e).bind fun y => (getP x y z).map .p) S
      | .box _ => .bad
      else .bad
  | .slice a bl bh lo hi => fun ρ S => (ev a ρ S).bind fun d S => ((ev lo ρ S).bind fun e S => optR (partOf bl e) S).bind fun l S => ((ev hi ρ S).bind fun g S => optR (partOf bh g) S).bind fun h S =>
      optR ((view S d).bind fun x => (sliceP x l h).map .p) S
  | .and a b => fun ρ S => (ev a ρ S).bind fun d S => match d with
    | .p (.bl true) => ev b ρ S
    | .p (.bl false) => .ok (.p (.bl false)) S
    | _ => .bad
  | .or a b => fun ρ S => (ev a ρ S).bind fun d S => match d with
    | .p (.bl true) => .ok (.p (.bl true)) S
    | .p (.bl false) => ev b ρ S
    | _ => .bad
  | .ifx c a b => fun ρ S => (evT c ρ S).bind fun t S => if t then ev a ρ S else ev b ρ S
  | .chain o p a b c => fun ρ S => (ev a ρ S).bind fun d S => (ev b ρ S).bind fun e S =>
      match (view S d).bind fun x => (view S e).bind fun y => prim2 o x y with
      | some (.bl true) => (ev c ρ S).bind fun g S => optR ((view S e).bind fun x => (view S g).bind fun y => (prim2 p x y).map .p) S
      | some (.bl false) => .ok (.p (.bl false)) S
      | _ => .bad
  | .tup l => fun ρ S => (evL l ρ S).bind fun ds S => (frzL S ds).bind fun ps S => if ps.length ≤ sizeLine then .ok (.p (.tup ps)) S else .bad
  | .lst bx l => fun ρ S => (evL l ρ S).bind fun ds S => (frzL S ds).bind fun ps S => if ps.length ≤ sizeLine then boxIf bx (.lst ps) S else .bad
  | .dnew => fun _ S => boxIf true (.dk [] []) S
  | .call fz i dfl l => fun ρ S => (evL l ρ S).bind fun ds S =>
      if fz then (frzL S ds).bind fun ps S => callA (Φ i) (ps.map .p ++ dfl.map .p) S else callA (Φ i) (ds ++ dfl.map .p) S
  | .meth fz c m i l => fun ρ S => match l with
    | .nil => .bad
    | .cons e l => (ev e ρ S).bind fun d S => if isIns c S d && noAttr S m d then (evL l ρ S).bind fun ds S =>
        (if fz then (frzL S (d :: ds)).bind fun ps S => callA (Φ i) (ps.map .p) S else callA (Φ i) (d :: ds) S) else .bad
  | .own1 c i a => fun ρ S => (ev a ρ S).bind fun d S => if isIns c S d then (callA (Φ i) [d] S).bind fun r S => match r with
        | .p (.int n) => if 0 ≤ n ∧ n < 2 ^ 63 then .ok (.p (.int n)) S else .bad
        | _ => .bad
      else .bad
  | .own2 c i a b => fun ρ S => (ev a ρ S).bind fun d S => (ev b ρ S).bind fun e S => if isIns c S d && isIns c S e then callA (Φ i) [d, e] S else .bad
  | .ne c i a b => fun ρ S => (ev a ρ S).bind fun d S => (ev b ρ S).bind fun e S =>
      if isIns c S d && isIns c S e then (callA (Φ i) [d, e] S).bind fun r S => match r with
        | .p (.bl b) => .ok (.p (.bl (!b))) S
        | _ => .bad
      else .bad
  | .isin c i x o => fun ρ S => (ev x ρ S).bind fun d S => (ev o ρ S).bind fun e S =>
      if isIns c S e then (callA (Φ i) [e, d] S).bind fun r S => match r with
        | .p (.bl b) => .ok (.p (.bl b)) S
        | _ => .bad
      else .bad
  | .mk fz c i dfl l => fun ρ S => (evL l ρ S).bind fun ds S => (frzL S ds).bind fun ps S => mkF fz c (Φ i) (ps ++ dfl) S
  | .fld c f e => fun ρ S => (ev e ρ S).bind fun d S => if isIns c S d then optR (fieldOf S f d) S else .bad
  | .mut m o a => fun ρ S => (ev o ρ S).bind fun d S => if isLst S d = false then .bad else (ev a ρ S).bind fun e S => (match m with
      | .extend => optR (view S e) S
      | _ => frz S e).bind fun x S => match d with
      | .box n => match S[n]? with
        | some (some ob) => match mutO m ob x with
          | some ob' => .ok (.p .non) (S.set n (some ob'))
          | none => .bad
        | _ => .bad
      | .p _ => .bad
  | .lc bx own elt tg src cond => fun ρ S => (evS src ρ S).bind fun items S => (calm (turns (stepL own tg (evT cond) (ev elt) ρ) items [] S)).bind fun l S => boxIf bx (.lst l) S
  | .dc bx own k v tg src cond => fun ρ S => (evS src ρ S).bind fun items S => (calm (turnsD (stepD own tg (evT cond) (ev k) (ev v) ρ) items [] [] S)).bind fun l S => boxIf bx (.dk l.1 l.2) S
def evT : IT → List (Option D) → Sto → Res Bool
  | .tt => fun _ S => .ok true S
  | .tr e => fun ρ S => (ev e ρ S).bind fun d S => optR ((view S d).bind truth) S
  | .not t => fun ρ S => (evT t ρ S).bind fun b S => .ok (!b) S
  | .and t u => fun ρ S => (evT t ρ S).bind fun b S => if b then evT u ρ S else .ok false S
  | .or t u => fun ρ S => (evT t ρ S).bind fun b S => if b then .ok true S else evT u ρ S
def evL : IL → List (Option D) → Sto → Res (List D)
  | .nil => fun _ S => .ok [] S
  | .cons e l => fun ρ S => (ev e ρ S).bind fun d S => (evL l ρ S).bind fun ds S => .ok (d :: ds) S
/-- the items that are walked -/
def evS : Src → List (Option D) → Sto → Res (List P)
  | .seq e => fun ρ S => (ev e ρ S).bind fun d S => (frz S d).bind fun x S => match x with
    | .lst l => .ok l S
    | .tup l => .ok l S
    | .fls l => .ok l S
    | .ktup l => .ok l S
    | _ => .bad
  | .rng1 e => fun ρ S => (ev e ρ S).bind fun d S => match d with
    | .p (.int i) => if small62 i then .ok (rng 0 i) S else .bad
    | _ => .bad
  | .rng2 a b => fun ρ S => (ev a ρ S).bind fun d S => (ev b ρ S).bind fun e S => match d, e with
    | .p (.int i), .p (.int j) => if small62 i && small62 j then .ok (rng i j) S else .bad
    | _, _ => .bad
  | .items e => fun ρ S => (ev e ρ S).bind fun d S => (frz S d).bind fun x S => match x with
    | .dk ks vs => .ok ((ks.zip vs).map fun kv => .tup [ofKey kv.1, kv.2]) S
    | _ => .bad
  | .enum e => fun ρ S => (ev e ρ S).bind fun d S => (frz S d).bind fun x S => match x with
    | .lst l => .ok (((List.range l.length).zip l).map fun kv => .tup [.int (kv.1 : Nat), kv.2]) S
    | _ => .bad
  | .zip a b => fun ρ S => (ev a ρ S).bind fun d S => (ev b ρ S).bind fun e S => (frz S d).bind fun x S => (frz S e).bind fun y S => match x, y with
    | .lst l, .lst m => .ok ((l.zip m).map fun kv => .tup [kv.1, kv.2]) S
    | _, _ => .bad
end

/-! ### statements -/
inductive Out where
  | next (ρ : List (Option D)) (S : Sto) | ret (d : D) (S : Sto) | rse (ρ : List (Option D)) (c : Nat) (ns : List Str) (vs : List P) (S : Sto) | bad
def Res.out {α : Type} (r : Res α) (ρ : List (Option D)) (f : α → Sto → Out) : Out := match r with
  | .ok a S => f a S
  | .rse c ns vs S => .rse ρ c ns vs S
  | .bad => .bad
def Out.andThen (r : Out) (f : List (Option D) → Sto → Out) : Out := match r with
  | .next ρ S => f ρ S
  | r => r
def forO (body : P → List (Option D) → Sto → Out) : List P → List (Option D) → Sto → Out
  | [], ρ, S => .next ρ S
  | x :: r, ρ, S => (body x ρ S).andThen fun ρ S => forO body r ρ S
def whileO (c : List (Option D) → Sto → Res Bool) (body : List (Option D) → Sto → Out) : Nat → List (Option D) → Sto → Out
  | 0, _, _ => .bad
  | n + 1, ρ, S => (c ρ S).out ρ fun b S => if b then (body ρ S).andThen fun ρ S => whileO c body n ρ S else .next ρ S
variable (fuel : Nat)
mutual
def ex : IS → List (Option D) → Sto → Out
  | .set (.nm i) e => fun ρ S => (ev Φ e ρ S).out ρ fun d S => .next (ρ.set i (some d)) S
  | .set (.tp is) e => fun ρ S => (ev Φ e ρ S).out ρ fun d S => match d with
    | .p x => match setTg (.tp is) x ρ with
      | some ρ => .next ρ S
      | none => .bad
    | .box _ => .bad
  | .par i j a b => fun ρ S => (ev Φ a ρ S).out ρ fun d S => (ev Φ b ρ S).out ρ fun e S => if i = j then .bad else .next ((ρ.set i (some d)).set j (some e)) S
  | .par3 i j l a b c => fun ρ S => (ev Φ a ρ S).out ρ fun d S => (ev Φ b ρ S).out ρ fun e S => (ev Φ c ρ S).out ρ fun g S =>
      if i = j ∨ i = l ∨ j = l then .bad else .next (((ρ.set i (some d)).set j (some e)).set l (some g)) S
  | .aug o i e => fun ρ S => match ρ[i]? with
    | some (some (.p x)) => (ev Φ e ρ S).out ρ fun d S => match d with
      | .p y => match augP o x y with
        | some z => .next (ρ.set i (some (.p z))) S
        | none => .bad
      | _ => .bad
    | _ => .bad
  | .auge i e => fun ρ S => match ρ[i]? with
    | some (some (.box n)) => (ev Φ e ρ S).out ρ fun d S => match view S d with
      | some x => match S[n]? with
        | some (some ob) => match mutO .extend ob x with
          | some ob' => .next ρ (S.set n (some ob'))
          | none => .bad
        | _ => .bad
      | none => .bad
    | _ => .bad
  | .ixset o k v => fun ρ S => (ev Φ v ρ S).out ρ fun dv S => (frz S dv).out ρ fun x S => (ev Φ o ρ S).out ρ fun d S => (ev Φ k ρ S).out ρ fun dk S => match d, dk with
    | .box n, .p kx => match S[n]? with
      | some (some ob) => match setO ob kx x with
        | some ob' => .next ρ (S.set n (some ob'))
        | none => .bad
      | _ => .bad
    | _, _ => .bad
  | .ixaug q o k v => fun ρ S => (ev Φ o ρ S).out ρ fun d S => (ev Φ k ρ S).out ρ fun dk S => match d, dk with
    | .box n, .p kx => match (view S d).bind fun ob => prim2 .ix ob kx with
      | some old => (ev Φ v ρ S).out ρ fun dv S => match dv with
        | .p y => match augP q old y, S[n]? with
          | some z, some (some ob) => match setO ob kx z with
            | some ob' => .next ρ (S.set n (some ob'))
            | none => .bad
          | _, _ => .bad
        | _ => .bad
      | none => .bad
    | _, _ => .bad
  | .fset c0 f o v => fun ρ S => (ev Φ v ρ S).out ρ fun dv S => (ev Φ o ρ S).out ρ fun d S => match d with
    | .box n => match S[n]? with
      | some (some (.ins c ns vs)) => if c == c0 && decide (ns.length < 999) && decide ns.Nodup then (match (ns.zip vs).lookup f with
        | some _ => .next ρ (S.set n (some (.ins c ns ((ns.zip vs).map fun kv => if kv.1 = f then dv else kv.2))))
        | none => .next ρ (S.set n (some (.ins c (ns ++ [f]) (vs ++ [dv]))))) else .bad
      | _ => .bad
    | _ => .bad
  | .ex e => fun ρ S => (ev Φ e ρ S).out ρ fun _ S => .next ρ S
  | .iff c a b => fun ρ S => (evT Φ c ρ S).out ρ fun t S => if t then exs a ρ S else exs b ρ S
  | .whl c b => fun ρ S => whileO (evT Φ c) (exs b) fuel ρ S
  | .for_ tg src b => fun ρ S => (evS Φ src ρ S).out ρ fun items S => forO (fun x ρ S => match setTg tg x ρ with
    | some ρ => exs b ρ S
    | none => .bad) items ρ S
  | .ret fz e => fun ρ S => (ev Φ e ρ S).out ρ fun d S => if fz then (frz S d).out ρ fun p S => .ret (.p p) S else .ret d S
  | .retN => fun _ S => .ret (.p .non) S
  | .pass => fun ρ S => .next ρ S
  | .bad => fun _ _ => .bad
def exs : IB → List (Option D) → Sto → Out
  | .nil => fun ρ S => .next ρ S
  | .cons s b => fun ρ S => (ex s ρ S).andThen fun ρ S => exs b ρ S
end
/-- a def's body run: no return is None -/
def runB (b : IB) (n : Nat) (ds : List D) (S : Sto) : Res D := match exs Φ fuel b (ds.map some ++ List.replicate (n - ds.length) none) S with
  | .next _ S => .ok (.p .non) S
  | .ret d S => .ok d S
  | .rse _ c ns vs S => .rse c ns vs S
  | .bad => .bad
/-- what a body's run says of the def -/
def Says (r : Res D) (k : Nat) : LR → Prop
  | .ok (.p x) os => ∃ S, r = .ok (.p x) S ∧ os.length = k ∧ S.take k = os.map some
  | .ok (.o o) os => ∃ m S, r = .ok (.box m) S ∧ os.length = k ∧ S.take k = os.map some ∧ k ≤ m ∧ S[m]? = some (some o)
  | .rse c ns vs os => ∃ S, r = .rse c ns vs S ∧ os.length = k ∧ S.take k = os.map some
  | .bad => True
end
end PD
/-! What a result asks of the heap behind it; the operations on data are those of the machine. -/
namespace PD
open PySem L2
/-- an error's own fields -/
def XRep (K : PySem.W.Frag) (cl : Nat → Addr) (G H : Hp) (ns : List Str) (vs : List P) (dd : Option Addr) : Prop :=
  (ns = [] ∧ dd = none) ∨ ∃ d fs, dd = some d ∧ H d = some (.xd fs) ∧ fs.map (·.1) = ns ∧ RepL K cl G vs (fs.map (·.2))
/-- what is wanted of a result, from the state (μ, S, H) -/
def Sat {α β : Type} (K : PySem.W.Frag) (cl : Nat → Addr) (F μ : List Addr) (S : Sto) (H : Hp) (R : List Addr → Hp → α → β → Prop) (r : Res α) (W : XK) (Q : β → Hp → Prop) : Prop := match r with
  | .ok a S' => ∀ b μ' H', Bears K cl F μ' H' S' → Fra μ S H μ' S' H' → R μ' (Gz F μ' S' H') a b → Q b H'
  | .rse c ns vs S' => ∀ dd μ' H', Bears K cl F μ' H' S' → Fra μ S H μ' S' H' → XRep K cl (Gz F μ' S' H') H' ns vs dd → W (.ref (cl c)) dd H'
  | .bad => False
abbrev RD (K : PySem.W.Frag) (cl : Nat → Addr) : List Addr → Hp → D → V → Prop := fun μ G d v => RepD K cl μ G d v
abbrev RDL (K : PySem.W.Frag) (cl : Nat → Addr) : List Addr → Hp → List D → List V → Prop := fun μ G d v => RepDL K cl μ G d v
abbrev RP (K : PySem.W.Frag) (cl : Nat → Addr) : List Addr → Hp → P → V → Prop := fun _ G d v => Rep K cl G d v
abbrev RPL (K : PySem.W.Frag) (cl : Nat → Addr) : List Addr → Hp → List P → List V → Prop := fun _ G d v => RepL K cl G d v
abbrev RB : List Addr → Hp → Bool → Bool → Prop := fun _ _ a b => a = b
section
variable {K : PySem.W.Frag} {cl : Nat → Addr} {F μ μ' : List Addr} {S S' : Sto} {H H' : Hp} {G : Hp} {W : XK}
theorem Sat.mono {α β : Type} {R : List Addr → Hp → α → β → Prop} {r : Res α} {Q Q' : β → Hp → Prop} (h : Sat K cl F μ S H R r W Q) (q : ∀ b H, Q b H → Q' b H) : Sat K cl F μ S H R r W Q' := by
  cases r with
  | ok a S' => exact fun b μ' H' B f r => q _ _ (h b μ' H' B f r)
  | rse c ns vs S' => exact h
  | bad => exact h
/-- from a later state -/
theorem Sat.later {α β : Type} {R : List Addr → Hp → α → β → Prop} {r : Res α} {Q : β → Hp → Prop} (f : Fra μ S H μ' S' H') (h : Sat K cl F μ S H R r W Q) : Sat K cl F μ' S' H' R r W Q := by
  cases r with
  | ok a S2 => exact fun b μ2 H2 B g r => h b μ2 H2 B (f.trans g) r
  | rse c ns vs S2 => exact fun dd μ2 H2 B g r => h dd μ2 H2 B (f.trans g) r
  | bad => exact h
/-- one result, then what goes on with it -/
theorem Sat.bind {α β α' β' : Type} {R : List Addr → Hp → α → β → Prop} {R' : List Addr → Hp → α' → β' → Prop} {r : Res α'} {f : α' → Sto → Res α} {Q : β → Hp → Prop} (h : Sat K cl F μ S H R (r.bind f) W Q) :
    Sat K cl F μ S H R' r W (fun b H1 => ∃ a S1 μ1, Bears K cl F μ1 H1 S1 ∧ Fra μ S H μ1 S1 H1 ∧ R' μ1 (Gz F μ1 S1 H1) a b ∧ Sat K cl F μ1 S1 H1 R (f a S1) W Q) := by
  cases r with
  | ok a S1 => exact fun b μ1 H1 B g rr => ⟨a, S1, μ1, B, g, rr, Sat.later g h⟩
  | rse c ns vs S' => exact h
  | bad => exact h
theorem Sat.opt {α β : Type} {R : List Addr → Hp → α → β → Prop} {o : Option α} {Q : β → Hp → Prop} (h : Sat K cl F μ S H R (optR o S') W Q) : ∃ a, o = some a ∧ Sat K cl F μ S H R (.ok a S') W Q := by
  cases o with
  | none => exact h.elim
  | some a => exact ⟨a, rfl, h⟩
/-- a freezing: no heap changes -/
theorem Sat.frz {α β : Type} {R : List Addr → Hp → α → β → Prop} {d : D} {v : V} {f : P → Sto → Res α} {Q : β → Hp → Prop} (B : Bears K cl F μ H S) (r : RepD K cl μ (Gz F μ S H) d v)
    (h : Sat K cl F μ S H R ((frz S d).bind f) W Q) : ∃ p S1, frz S d = .ok p S1 ∧ S1.length = S.length ∧ Bears K cl F μ H S1 ∧ Fra μ S H μ S1 H ∧ Rep K cl (Gz F μ S1 H) p v ∧ Sat K cl F μ S1 H R (f p S1) W Q := by
  cases d with
  | p x => exact ⟨x, S, rfl, rfl, B, Fra.refl, r, h⟩
  | box n =>
    obtain ⟨a, rfl, hn⟩ := r
    unfold PD.frz at h ⊢
    cases hs : S[n]? with
    | none => simp only [hs] at h; exact h.elim
    | some oo =>
      cases oo with
      | none => simp only [hs] at h; exact h.elim
      | some o =>
        simp only [hs] at h ⊢
        cases hc : cont o with
        | none => rw [hc] at h; exact h.elim
        | some p =>
          rw [hc] at h
          obtain ⟨B1, f1, r1⟩ := B.freeze hn hs hc
          exact ⟨p, _, rfl, by rw [List.length_set], B1, f1, r1, Sat.later f1 h⟩
theorem Sat.frzL {α β : Type} {R : List Addr → Hp → α → β → Prop} {Q : β → Hp → Prop} : ∀ {ds : List D} {vs : List V} {S : Sto} {f : List P → Sto → Res α}, Bears K cl F μ H S → RepDL K cl μ (Gz F μ S H) ds vs →
    Sat K cl F μ S H R ((frzL S ds).bind f) W Q → ∃ ps S1, PD.frzL S ds = .ok ps S1 ∧ S1.length = S.length ∧ Bears K cl F μ H S1 ∧ Fra μ S H μ S1 H ∧ RepL K cl (Gz F μ S1 H) ps vs ∧ Sat K cl F μ S1 H R (f ps S1) W Q
  | [], vs, S, f, B, r, h => ⟨[], S, rfl, rfl, B, Fra.refl, r, h⟩
  | d :: ds, _, S, f, B, ⟨v, t, e, r1, r2⟩, h => by
    have h' : Sat K cl F μ S H R ((PD.frz S d).bind fun p S => (PD.frzL S ds).bind fun ps S => f (p :: ps) S) W Q := by
      have e2 : (PD.frzL S (d :: ds)).bind f = (PD.frz S d).bind fun p S => (PD.frzL S ds).bind fun ps S => f (p :: ps) S := by
        show ((PD.frz S d).bind fun p S => (PD.frzL S ds).bind fun ps S => Res.ok (p :: ps) S).bind f = _
        cases PD.frz S d with
        | ok p S1 =>
          show ((PD.frzL S1 ds).bind fun ps S => Res.ok (p :: ps) S).bind f = (PD.frzL S1 ds).bind fun ps S => f (p :: ps) S
          cases PD.frzL S1 ds <;> rfl
        | rse _ _ _ _ => rfl
        | bad => rfl
      rw [← e2]; exact h
    obtain ⟨p, S1, e1, l1, B1, f1, q1, h1⟩ := Sat.frz B r1 h'
    obtain ⟨ps, S2, e2, l2, B2, f2, q2, h2⟩ := Sat.frzL B1 (RepDL.mono f1.pre f1.gle r2) h1
    refine ⟨p :: ps, S2, ?_, l2.trans l1, B2, f1.trans f2, ⟨v, t, e, Rep.mono f2.gle _ _ q1, q2⟩, h2⟩
    show (PD.frz S d).bind _ = _
    rw [e1]
    show (PD.frzL S1 ds).bind _ = _
    rw [e2]
    rfl
theorem repDL_p : ∀ {ps : List P} {vs : List V}, RepL K cl G ps vs → RepDL K cl μ G (ps.map .p) vs
  | [], _, h => h
  | p :: ps, _, ⟨v, t, e, h1, h2⟩ => ⟨v, t, e, h1, repDL_p h2⟩
theorem RepDL.app : ∀ {l m : List D} {xs ys : List V}, RepDL K cl μ G l xs → RepDL K cl μ G m ys → RepDL K cl μ G (l ++ m) (xs ++ ys)
  | [], _, _, _, h, k => by rw [show _ = [] from h]; exact k
  | p :: l, _, _, _, ⟨v, r, e, h, t⟩, k => by
    rw [e]
    exact ⟨v, r ++ _, rfl, h, RepDL.app t k⟩

/-! ### what may be read of a thing that stands for data -/
/-- the outermost thing read in H, what is in it in G -/
def Vw (K : PySem.W.Frag) (cl : Nat → Addr) (G H : Hp) : P → V → Prop
  | .lst l, v => ∃ a xs, v = .ref a ∧ H a = some (.lst xs) ∧ RepL K cl G l xs
  | .dk ks vs, v => ∃ a kvs, v = .ref a ∧ Rd H a (.dK kvs) ∧ kvs.map (·.1) = ks ∧ RepL K cl G vs (kvs.map (·.2))
  | .dt ks vs, v => ∃ a kvs, v = .ref a ∧ Rd H a (.dT kvs) ∧ kvs.map (·.1) = ks ∧ RepL K cl G vs (kvs.map (·.2))
  | .ins c ns vs, v => ∃ a dx ys, v = .ref a ∧ H a = some (.ins (cl c) dx ys) ∧ ys.map (·.1) = ns ∧ RepL K cl G vs (ys.map (·.2))
  | p, v => Rep K cl G p v
theorem gz_gle : Gle (Gz F μ S H) H := Gle.of fun a u h => (gz_some h).2.2
theorem vw_rep {p : P} {v : V} (h : Rep K cl G p v) (g : Gle G H) : Vw K cl G H p v := by
  cases p with
  | non => exact h
  | bl b => exact h
  | int i => exact h
  | str s => exact h
  | tup l => exact h
  | lst l => obtain ⟨a, xs, e, h, r⟩ := h; exact ⟨a, xs, e, g.ex a _ trivial h, r⟩
  | ktup l => exact h
  | fls l => exact h
  | dk ks vs => obtain ⟨a, xs, e, h, r⟩ := h; exact ⟨a, xs, e, g.rd a _ h, r⟩
  | dt ks vs => obtain ⟨a, xs, e, h, r⟩ := h; exact ⟨a, xs, e, g.rd a _ h, r⟩
  | ins c ns vs => obtain ⟨a, dx, ys, e, h, r⟩ := h; exact ⟨a, dx, ys, e, g.ex a _ trivial h, r⟩
theorem view_vw {d : D} {v : V} {p : P} (B : Bears K cl F μ H S) (r : RepD K cl μ (Gz F μ S H) d v) (h : view S d = some p) : Vw K cl (Gz F μ S H) H p v := by
  cases d with
  | p x => cases h; exact vw_rep r gz_gle
  | box n =>
    obtain ⟨a, rfl, hn⟩ := r
    unfold view at h
    cases hs : S[n]? with
    | none => simp only [hs] at h; cases h
    | some oo =>
      cases oo with
      | none => simp only [hs] at h; cases h
      | some o =>
        simp only [hs] at h
        have q := B.obj n a o hn hs
        cases o with
        | lst l => cases h; obtain ⟨xs, e, r⟩ := q; exact ⟨a, xs, rfl, e, r⟩
        | dk ks vs => cases h; obtain ⟨kvs, e, k, r⟩ := q; exact ⟨a, kvs, rfl, .inl e, k, r⟩
        | dt ks vs => cases h; obtain ⟨kvs, e, k, r⟩ := q; exact ⟨a, kvs, rfl, .inl e, k, r⟩
        | ins c ns vs =>
          obtain ⟨dx, ys, e, k, r⟩ := q
          simp only [cont] at h
          cases hm : pureD vs with
          | none => rw [hm] at h; cases h
          | some ws => rw [hm] at h; cases h; exact ⟨a, dx, ys, rfl, e, k, repDL_pure hm r⟩
/-- a value of a plain kind -/
theorem vw_int {i : Int} {v : V} (h : Vw K cl G H (.int i) v) : v = .int i := h
theorem vw_bl {i : Bool} {v : V} (h : Vw K cl G H (.bl i) v) : v = .bl i := h
theorem vw_str {i : Str} {v : V} (h : Vw K cl G H (.str i) v) : v = .str i := h
theorem vw_non {v : V} (h : Vw K cl G H .non v) : v = .non := h

/-! ### handing on a piece of data -/
theorem give {p : P} {v : V} {Q : VK} (B : Bears K cl F μ H S) (h : Sat K cl F μ S H (RD K cl) (.ok (.p p) S) W Q) (r : Rep K cl (Gz F μ S H) p v) : Q v H := h v μ H B Fra.refl r
theorem gz_fresh {p : Addr} {o : HO} (B : Bears K cl F μ H S) (hp : H p = none) : Gz F μ S (upd H p o) p = some o := by
  rw [gz_of (fun ⟨n, x, h, _⟩ => B.dom n p h hp) (fun h => B.hd p h hp), upd_same]
theorem give_lst {l : List P} {xs : List V} {Q : VK} (B : Bears K cl F μ H S) (h : Sat K cl F μ S H (RD K cl) (.ok (.p (.lst l)) S) W Q) (r : RepL K cl (Gz F μ S H) l xs) (p : Addr) (hp : H p = none) : Q (.ref p) (upd H p (.lst xs)) := by
  obtain ⟨B1, f1⟩ := B.fresh (o := .lst xs) hp
  exact h _ μ _ B1 f1 ⟨p, xs, rfl, gz_fresh B hp, RepL.mono f1.gle _ _ r⟩
theorem give_tup {l : List P} {xs : List V} {Q : VK} (B : Bears K cl F μ H S) (h : Sat K cl F μ S H (RD K cl) (.ok (.p (.tup l)) S) W Q) (r : RepL K cl (Gz F μ S H) l xs) (p : Addr) (hp : H p = none) : Q (.ref p) (upd H p (.tup xs)) := by
  obtain ⟨B1, f1⟩ := B.fresh (o := .tup xs) hp
  exact h _ μ _ B1 f1 ⟨p, xs, rfl, gz_fresh B hp, RepL.mono f1.gle _ _ r⟩
theorem atI_rep {l : List P} {xs : List V} {i : Int} {p : P} (r : RepL K cl G l xs) (h : atI l i = some p) : ∃ v, atI xs i = some v ∧ Rep K cl G p v := by
  unfold atI at h ⊢
  rw [r.len] at h
  cases hi : ixN xs.length i with
  | none => rw [hi] at h; cases h
  | some j =>
    rw [hi] at h
    exact r.get h
theorem cut_rep {l : List P} {xs : List V} {lo hi : Option Int} (r : RepL K cl G l xs) : RepL K cl G (cutP l lo hi) (cutV xs lo hi) := by
  unfold cutP cutV
  rw [r.len]
  exact (r.drop _).take _
theorem RepL.rep {l : List P} {xs : List V} (r : RepL K cl G l xs) : ∀ n : Nat, RepL K cl G (List.replicate n l).flatten (List.replicate n xs).flatten
  | 0 => rfl
  | n + 1 => by
    rw [List.replicate_succ, List.replicate_succ, List.flatten_cons, List.flatten_cons]
    exact r.app (RepL.rep r n)
theorem repL_ints : ∀ (ns : List Int), RepL K cl G (ns.map .int) (ns.map V.int)
  | [] => rfl
  | n :: ns => ⟨_, _, rfl, rfl, repL_ints ns⟩
/-! ### keys -/
theorem key_of {p : P} {k : Key} {v : V} (h : keyOf p = some k) (r : Vw K cl G H p v) : v = kV k := by
  cases p <;> simp only [keyOf] at h <;> cases h <;> exact r
theorem key_rep : ∀ k : Key, Rep K cl G (ofKey k) (kV k)
  | .inl _ => rfl
  | .inr _ => rfl
theorem keys_of : ∀ {l : List P} {ks : List Key} {xs : List V}, keysOf l = some ks → RepL K cl G l xs → xs = ks.map kV
  | [], ks, xs, h, r => by cases h; exact r
  | p :: l, ks, xs, h, ⟨v, t, e, r1, r2⟩ => by
    simp only [keysOf] at h
    cases hk : keyOf p with
    | none => rw [hk] at h; cases h
    | some k =>
      cases hl : keysOf l with
      | none => rw [hk, hl] at h; cases h
      | some ks' =>
        rw [hk, hl] at h
        cases h
        have e1 : v = kV k := by
          cases p <;> simp only [keyOf] at hk <;> cases hk <;> exact r1
        rw [e, e1, keys_of hl r2]
        rfl
section
variable {κ : Type} [DecidableEq κ]
theorem look_val : ∀ {kvs : List (κ × V)} {ks : List κ} {vs : List P} {x : κ}, kvs.map (·.1) = ks → RepL K cl G vs (kvs.map (·.2)) →
    (∀ p, look ks vs x = some p → ∃ v, valV kvs x = some v ∧ Rep K cl G p v) ∧ (look ks vs x = none → valV kvs x = none)
  | [], ks, vs, x, h, r => by
    cases h
    exact ⟨fun p q => by (cases vs <;> cases q), fun _ => rfl⟩
  | (k, v) :: kvs, ks, vs, x, h, r => by
    cases h
    cases vs with
    | nil => cases (show (v :: _ : List V) = [] from r)
    | cons p vs =>
      obtain ⟨v', t, e, r1, r2⟩ := r
      cases e
      have ih := look_val (kvs := kvs) (x := x) rfl r2
      have e0 : ((k, v) :: kvs).map (·.1) = k :: kvs.map (·.1) := rfl
      rw [e0]
      by_cases c : k = x
      · refine ⟨fun q hq => ⟨v, ?_, ?_⟩, fun hq => ?_⟩
        · simp [valV, c]
        · simp only [look, if_pos c] at hq
          cases hq
          exact r1
        · simp only [look, if_pos c] at hq
          cases hq
      · have e1 : look (k :: kvs.map (·.1)) (p :: vs) x = look (kvs.map (·.1)) vs x := by simp [look, c]
        have e2 : valV ((k, v) :: kvs) x = valV kvs x := by simp [valV, c]
        rw [e1, e2]
        exact ih
theorem valV_some_in {kvs : List (κ × V)} {x : κ} : (valV kvs x).isSome = decide (x ∈ kvs.map (·.1)) := by
  induction kvs with
  | nil => simp [valV]
  | cons kv kvs ih =>
    by_cases c : kv.1 = x
    · simp [valV, c]
    · have e2 : valV (kv :: kvs) x = valV kvs x := by simp [valV, c]
      rw [e2, ih]
      simp [Ne.symm c, eq_comm]
theorem zip_map_same (x : κ) : ∀ (kvs : List (κ × V)) (vs : List P) (p : P) (v : V), RepL K cl G vs (kvs.map (·.2)) → Rep K cl G p v →
    RepL K cl G (((kvs.map (·.1)).zip vs).map fun kv => if kv.1 = x then p else kv.2) ((kvs.map fun kv => if kv.1 = x then (kv.1, v) else kv).map (·.2))
  | [], vs, p, v, r, rp => by
    show RepL K cl G (([].zip vs).map _) []
    rfl
  | (k, w) :: kvs, vs, p, v, r, rp => by
    cases vs with
    | nil => cases (show (w :: _ : List V) = [] from r)
    | cons q vs =>
      obtain ⟨v', t, e, r1, r2⟩ := r
      cases e
      by_cases c : k = x
      · refine ⟨v, _, ?_, ?_, zip_map_same x kvs vs p v r2 rp⟩
        · simp [c]
        · simp [c]; exact rp
      · refine ⟨w, _, ?_, ?_, zip_map_same x kvs vs p v r2 rp⟩
        · simp [c]
        · simp [c]; exact r1
theorem put_rep {kvs : List (κ × V)} {ks : List κ} {vs : List P} {x : κ} {p : P} {v : V} (hk : kvs.map (·.1) = ks) (r : RepL K cl G vs (kvs.map (·.2))) (rp : Rep K cl G p v) :
    (putK kvs x v).map (·.1) = (putv ks vs x p).1 ∧ RepL K cl G (putv ks vs x p).2 ((putK kvs x v).map (·.2)) := by
  subst hk
  unfold putK putv
  have e : ((kvs.any fun kv => decide (kv.1 = x)) = true) ↔ x ∈ kvs.map (·.1) := by
    simp [List.any_eq_true]
  by_cases c : x ∈ kvs.map (·.1)
  · rw [if_pos (e.mpr c), if_pos c]
    refine ⟨?_, zip_map_same x kvs vs p v r rp⟩
    rw [List.map_map]
    apply List.map_congr_left
    intro kv _
    show (if kv.1 = x then (kv.1, v) else kv).1 = kv.1
    split <;> rfl
  · rw [if_neg (fun z => c (e.mp z)), if_neg c]
    exact ⟨by simp, by simpa using r.app (RepL.one rp)⟩
end
end
end PD
/-! The machine's operations on values that stand for data. -/
namespace PD
open PySem L2 PySem.Spec PyProof.Rows
section
variable {X : Cx} {cl : Nat → Addr} {W : XK}
def RO1 (X : Cx) (cl : Nat → Addr) (W : XK) (o : Op1) : V → Hp → VK → Prop := fun x H Q => ∃ F μ S p z, Bears X.K cl F μ H S ∧ Vw X.K cl (Gz F μ S H) H p x ∧ prim1 o p = some z ∧ Sat X.K cl F μ S H (RD X.K cl) (.ok (.p z) S) W Q
def RO2 (X : Cx) (cl : Nat → Addr) (W : XK) (o : Op2) : R2 := fun x y H Q => ∃ F μ S p q z, Bears X.K cl F μ H S ∧ Vw X.K cl (Gz F μ S H) H p x ∧ Vw X.K cl (Gz F μ S H) H q y ∧ prim2 o p q = some z ∧ Sat X.K cl F μ S H (RD X.K cl) (.ok (.p z) S) W Q

/-! ### arithmetic -/
theorem bin_add : OpR X (binaryOp .Add) (RO2 X cl W .add) := by
  intro pins s σ H x y v u Q I rx ry h
  obtain ⟨F, μ, S, p, q, z, B, vp, vq, hz, h⟩ := h
  cases p <;> cases q <;> first | (cases hz; done) | skip
  · cases hz
    exact op_add pins s σ H x y v u Q I rx ry ⟨_, _, vp, vq, give B h rfl⟩
  · simp only [prim2] at hz
    split at hz
    · cases hz
      exact op_add_str pins s σ H x y v u Q I rx ry ⟨_, _, vp, vq, by assumption, give B h rfl⟩
    · cases hz
  · simp only [prim2] at hz
    split at hz
    · cases hz
      obtain ⟨a, xs, rfl, ha, ra⟩ := vp
      obtain ⟨b, ys, rfl, hb, rb⟩ := vq
      have ea := gz_gle.ex a (.tup xs) trivial ha
      have eb := gz_gle.ex b (.tup ys) trivial hb
      refine op_catA pins s σ H _ _ v u Q I rx ry ⟨a, b, xs, ys, rfl, rfl, .inl (.inl ea), .inl (.inl eb), by rw [← ra.len, ← rb.len]; assumption, fun e => ?_, fun _ e => ?_, fun _ _ p hp => give_tup B h (ra.app rb) p hp⟩
      · subst e
        have e2 := List.length_eq_zero_iff.mp ra.len
        subst e2
        exact give B h ⟨b, ys, rfl, hb, rb⟩
      · subst e
        have e2 := List.length_eq_zero_iff.mp rb.len
        subst e2
        exact give B h ⟨a, xs, rfl, ha, by rw [List.append_nil]; exact ra⟩
    · cases hz
  · simp only [prim2] at hz
    split at hz
    · cases hz
      obtain ⟨a, xs, rfl, ha, ra⟩ := vp
      obtain ⟨b, ys, rfl, hb, rb⟩ := vq
      exact op_cat pins s σ H _ _ v u Q I rx ry ⟨a, b, xs, ys, rfl, rfl, ha, hb, by rw [← ra.len, ← rb.len]; assumption, fun p hp => give_lst B h (ra.app rb) p hp⟩
    · cases hz
theorem bin_sub : OpR X (binaryOp .Sub) (RO2 X cl W .sub) := by
  intro pins s σ H x y v u Q I rx ry h
  obtain ⟨F, μ, S, p, q, z, B, vp, vq, hz, h⟩ := h
  cases p <;> cases q <;> first | (cases hz; done) | skip
  cases hz
  exact op_sub pins s σ H x y v u Q I rx ry ⟨_, _, vp, vq, give B h rfl⟩
theorem bin_mul : OpR X (binaryOp .Mult) (RO2 X cl W .mul) := by
  intro pins s σ H x y v u Q I rx ry h
  obtain ⟨F, μ, S, p, q, z, B, vp, vq, hz, h⟩ := h
  cases p <;> cases q <;> first | (cases hz; done) | skip
  · simp only [prim2] at hz
    split at hz
    · cases hz
      exact op_mulW pins s σ H x y v u Q I rx ry ⟨_, _, vp, vq, by assumption, give B h rfl⟩
    · cases hz
  · simp only [prim2] at hz
    split at hz
    · rename_i c
      cases hz
      obtain ⟨a, xs, rfl, ha, ra⟩ := vp
      exact op_rep pins s σ H _ _ v u Q I rx ry ⟨a, _, xs, rfl, vq, ha, c.1, c.2.1, by rw [← ra.len]; exact c.2.2, fun p hp => give_lst B h (ra.rep _) p hp⟩
    · cases hz
theorem bin_fdiv : OpR X (binaryOp .FloorDiv) (RO2 X cl W .fdiv) := by
  intro pins s σ H x y v u Q I rx ry h
  obtain ⟨F, μ, S, p, q, z, B, vp, vq, hz, h⟩ := h
  cases p <;> cases q <;> first | (cases hz; done) | skip
  simp only [prim2] at hz
  split at hz
  · cases hz
    exact op_fdivW pins s σ H x y v u Q I rx ry ⟨_, _, vp, vq, by assumption, give B h rfl⟩
  · cases hz
theorem bin_mod : OpR X (binaryOp .Mod) (RO2 X cl W .mod) := by
  intro pins s σ H x y v u Q I rx ry h
  obtain ⟨F, μ, S, p, q, z, B, vp, vq, hz, h⟩ := h
  cases p <;> cases q <;> first | (cases hz; done) | skip
  simp only [prim2] at hz
  split at hz
  · cases hz
    exact op_mod pins s σ H x y v u Q I rx ry ⟨_, _, vp, vq, by assumption, give B h rfl⟩
  · split at hz
    · cases hz
      exact op_modN pins s σ H x y v u Q I rx ry ⟨_, _, vp, vq, by assumption, give B h rfl⟩
    · cases hz
theorem bin_pow : OpR X (binaryOp .Pow) (RO2 X cl W .pow) := by
  intro pins s σ H x y v u Q I rx ry h
  obtain ⟨F, μ, S, p, q, z, B, vp, vq, hz, h⟩ := h
  cases p <;> cases q <;> first | (cases hz; done) | skip
  simp only [prim2] at hz
  split at hz
  · cases hz
    exact op_pow pins s σ H x y v u Q I rx ry ⟨_, _, vp, vq, by assumption, give B h rfl⟩
  · cases hz
def opOf : Operator → Option Op2
  | .Add => some .add | .Sub => some .sub | .Mult => some .mul | .FloorDiv => some .fdiv | .Mod => some .mod | .Pow => some .pow | _ => none
theorem bin_ok {op : Operator} {o : Op2} (h : opOf op = some o) : OpR X (binaryOp op) (RO2 X cl W o) := by
  cases op <;> cases h
  · exact bin_add
  · exact bin_sub
  · exact bin_mul
  · exact bin_mod
  · exact bin_pow
  · exact bin_fdiv

/-! ### comparisons of ints -/
theorem cmp_lt : OpR X (compareOp .Lt) (RO2 X cl W .lt) := by
  intro pins s σ H x y v u Q I rx ry h
  obtain ⟨F, μ, S, p, q, z, B, vp, vq, hz, h⟩ := h
  cases p <;> cases q <;> first | (cases hz; done) | skip
  cases hz
  exact op_lt pins s σ H x y v u Q I rx ry ⟨_, _, vp, vq, give B h rfl⟩
theorem cmp_le : OpR X (compareOp .LtE) (RO2 X cl W .le) := by
  intro pins s σ H x y v u Q I rx ry h
  obtain ⟨F, μ, S, p, q, z, B, vp, vq, hz, h⟩ := h
  cases p <;> cases q <;> first | (cases hz; done) | skip
  cases hz
  exact op_le pins s σ H x y v u Q I rx ry ⟨_, _, vp, vq, give B h rfl⟩
theorem cmp_gt : OpR X (compareOp .Gt) (RO2 X cl W .gt) := by
  intro pins s σ H x y v u Q I rx ry h
  obtain ⟨F, μ, S, p, q, z, B, vp, vq, hz, h⟩ := h
  cases p <;> cases q <;> first | (cases hz; done) | skip
  cases hz
  exact op_gt pins s σ H x y v u Q I rx ry ⟨_, _, vp, vq, give B h rfl⟩
theorem cmp_ge : OpR X (compareOp .GtE) (RO2 X cl W .ge) := by
  intro pins s σ H x y v u Q I rx ry h
  obtain ⟨F, μ, S, p, q, z, B, vp, vq, hz, h⟩ := h
  cases p <;> cases q <;> first | (cases hz; done) | skip
  cases hz
  exact op_ge pins s σ H x y v u Q I rx ry ⟨_, _, vp, vq, give B h rfl⟩

/-! ### data that == tells -/
section
variable {K : PySem.W.Frag} {G H : Hp}
mutual
theorem dp_rep (g : Gle G H) : ∀ (p : P) (v : V) (d : PyData), Rep K cl G p v → toPD p = some d → Dp K H v d
  | .non, _, d, h, e => by
    cases h; cases e; exact .non
  | .bl _, _, d, h, e => by
    cases h; cases e; exact .bl _
  | .int _, _, d, h, e => by
    cases h; cases e; exact .int _
  | .str _, _, d, h, e => by
    cases h; cases e; exact .str _
  | .tup l, _, d, ⟨a, xs, ev, h, r⟩, e => by
    subst ev
    have e' : (toPDs l).map PyData.tuple = some d := e
    obtain ⟨ds, e1, e2⟩ := Option.map_eq_some_iff.mp e'
    subst e2
    exact .tup (.inl (.inl (g.ex a _ trivial h))) (dp_reps g l xs ds r e1)
  | .lst l, _, d, ⟨a, xs, ev, h, r⟩, e => by
    subst ev
    have e' : (toPDs l).map PyData.list = some d := e
    obtain ⟨ds, e1, e2⟩ := Option.map_eq_some_iff.mp e'
    subst e2
    exact .lst (.inl (.inl (g.ex a _ trivial h))) (dp_reps g l xs ds r e1)
  | .ktup l, _, d, ⟨a, xs, ev, h, r⟩, e => by
    subst ev
    have e' : (toPDs l).map PyData.tuple = some d := e
    obtain ⟨ds, e1, e2⟩ := Option.map_eq_some_iff.mp e'
    subst e2
    exact .tup (g.sqT h) (dp_reps g l xs ds r e1)
  | .fls l, _, d, ⟨a, xs, ev, h, r⟩, e => by
    subst ev
    have e' : (toPDs l).map PyData.list = some d := e
    obtain ⟨ds, e1, e2⟩ := Option.map_eq_some_iff.mp e'
    subst e2
    exact .lst (g.sqL h) (dp_reps g l xs ds r e1)
  | .dk _ _, _, _, _, e => by cases e
  | .dt _ _, _, _, _, e => by cases e
  | .ins _ _ _, _, _, _, e => by cases e
theorem dp_reps (g : Gle G H) : ∀ (l : List P) (xs : List V) (ds : List PyData), RepL K cl G l xs → toPDs l = some ds → DpAll K H xs ds
  | [], _, ds, h, e => by
    cases e
    rw [show _ = [] from h]
    exact .nil
  | p :: l, _, ds, ⟨v, r, ev, h, t⟩, e => by
    subst ev
    simp only [toPDs] at e
    cases h1 : toPD p with
    | none => rw [h1] at e; cases e
    | some d1 =>
      cases h2 : toPDs l with
      | none => rw [h1, h2] at e; cases e
      | some ds2 =>
        rw [h1, h2] at e
        cases e
        exact .cons (dp_rep g p v d1 h h1) (dp_reps g l r ds2 t h2)
end
theorem dp_vw (g : Gle G H) {p : P} {v : V} {d : PyData} (h : Vw K cl G H p v) (e : toPD p = some d) : Dp K H v d := by
  cases p with
  | lst l =>
    obtain ⟨a, xs, ev, h, r⟩ := h
    subst ev
    have e' : (toPDs l).map PyData.list = some d := e
    obtain ⟨ds, e1, e2⟩ := Option.map_eq_some_iff.mp e'
    subst e2
    exact .lst (.inl (.inl h)) (dp_reps g l xs ds r e1)
  | dk _ _ => cases e
  | dt _ _ => cases e
  | ins _ _ _ => cases e
  | non => exact dp_rep g _ v d h e
  | bl _ => exact dp_rep g _ v d h e
  | int _ => exact dp_rep g _ v d h e
  | str _ => exact dp_rep g _ v d h e
  | tup _ => exact dp_rep g _ v d h e
  | ktup _ => exact dp_rep g _ v d h e
  | fls _ => exact dp_rep g _ v d h e
theorem dataOf_some {p : P} {d : PyData} (h : dataOf p = some d) : toPD p = some d ∧ SeqAt.shaped d = true := by
  unfold dataOf at h
  cases e : toPD p with
  | none => rw [e] at h; cases h
  | some d' =>
    rw [e] at h
    simp only at h
    split at h
    · cases h; exact ⟨rfl, by assumption⟩
    · cases h
theorem datas_some : ∀ {l : List P} {ds : List PyData}, datas l = some ds → toPDs l = some ds ∧ ∀ d ∈ ds, SeqAt.shaped d = true
  | [], ds, h => by cases h; exact ⟨rfl, fun d hd => by cases hd⟩
  | p :: l, ds, h => by
    simp only [datas] at h
    cases h1 : dataOf p with
    | none => rw [h1] at h; cases h
    | some d1 =>
      cases h2 : datas l with
      | none => rw [h1, h2] at h; cases h
      | some ds2 =>
        rw [h1, h2] at h
        cases h
        obtain ⟨e1, s1⟩ := dataOf_some h1
        obtain ⟨e2, s2⟩ := datas_some h2
        refine ⟨by simp only [toPDs, e1, e2], fun d hd => ?_⟩
        rcases List.mem_cons.mp hd with rfl | hd
        · exact s1
        · exact s2 d hd
end
theorem reads_data {pins : List (Addr × Obj)} {s : Shared} {σ : L2.St} {H : Hp} {d : PyData} {x : V} {u : Value} (I : Inv X pins σ H s) (h : Dp X.K H x d) (r : RelV x u) : ∃ as, Reads s.heap u d as := Dp.reads I d x u h r
theorem eq_two {s : Shared} {a b : Value} {d e : PyData} {A : Around} (ra : ∃ as, Reads s.heap a d as) (rb : ∃ bs, Reads s.heap b e bs) (hd : SeqAt.shaped d = true) (he : SeqAt.shaped e = true) (hu : A.units + 64 < cLine) : SeqAt.EqAt A s a b (PyData.eqv d e) := by
  obtain ⟨as, ra⟩ := ra
  obtain ⟨bs, rb⟩ := rb
  exact SeqAt.eqAt_reads d e A s a b as bs ra rb (SeqAt.canLay_of_shaped hd) (SeqAt.canLay_of_shaped he) (SeqAt.room_of_shaped hd hu)

/-! ### dicts -/
theorem kv_look {pins : List (Addr × Obj)} {s : Shared} {σ : L2.St} {H : Hp} (I : Inv X pins σ H s) : ∀ {kvs : List (Key × V)} {vs : List (Key × Value)} {ds : List PyData} (k : Key), KV kvs vs → DpAll X.K H (kvs.map (·.2)) ds →
    (∀ e, look (kvs.map (·.1)) ds k = some e → ∃ u, valueAt vs k = some u ∧ ∃ as, Reads s.heap u e as) ∧ (look (kvs.map (·.1)) ds k = none → valueAt vs k = none)
  | [], vs, ds, k, r, hd => by
    cases r
    exact ⟨fun e q => by (cases q), fun _ => rfl⟩
  | (k', v) :: kvs, _, ds, k, .cons (b := (k2, u)) (l₂ := vs) hr r, hd => by
    obtain ⟨e1, e2⟩ := hr
    cases e1
    cases hd with
    | cons h1 h2 =>
      rename_i d0 ds0
      have ih := kv_look I k r h2
      by_cases c : k' = k
      · refine ⟨fun e q => ?_, fun q => ?_⟩
        · simp only [List.map_cons, look, if_pos c] at q
          cases q
          exact ⟨u, by simp [valueAt, c], reads_data I h1 e2⟩
        · simp only [List.map_cons, look, if_pos c] at q
          cases q
      · have a1 : look (((k', v) :: kvs).map (·.1)) (d0 :: ds0) k = look (kvs.map (·.1)) ds0 k := by simp [look, c]
        have a2 : valueAt ((k', u) :: vs) k = valueAt vs k := by simp [valueAt, c]
        rw [a2]
        exact ⟨fun e q => ih.1 e (a1 ▸ q), fun q => ih.2 (a1 ▸ q)⟩
theorem hits_of {pins : List (Addr × Obj)} {s : Shared} {σ : L2.St} {H : Hp} {A : Around} (hu : A.units + 64 < cLine) (I : Inv X pins σ H s) {kvs' : List (Key × V)} {vb : List (Key × Value)} {es : List PyData} (rb : KV kvs' vb) (db : DpAll X.K H (kvs'.map (·.2)) es) (sb : ∀ d ∈ es, SeqAt.shaped d = true) :
    ∀ {kvs : List (Key × V)} {va : List (Key × Value)} {ds : List PyData}, KV kvs va → DpAll X.K H (kvs.map (·.2)) ds → (∀ d ∈ ds, SeqAt.shaped d = true) →
      PySem.W.KeqHitsIn X.prog X.w A s vb va (dEq (kvs'.map (·.1)) es (kvs.map (·.1)) ds)
  | [], _, ds, r, hd, _ => by
    cases r
    exact .nil
  | (k, v) :: kvs, _, _, .cons (b := (k2, u)) (l₂ := va) hr r, hd, sd => by
    obtain ⟨e1, e2⟩ := hr
    cases e1
    cases hd with
    | cons h1 h2 =>
      rename_i d ds
      have kl := kv_look I k rb db
      show PySem.W.KeqHitsIn X.prog X.w A s vb ((k, u) :: va) (match look (kvs'.map (·.1)) es k with
        | some e => PyData.eqv d e && dEq (kvs'.map (·.1)) es (kvs.map (·.1)) ds
        | none => false)
      cases hl : look (kvs'.map (·.1)) es k with
      | none => exact .miss (kl.2 hl)
      | some e =>
        obtain ⟨y, hy, ry⟩ := kl.1 e hl
        have he : e ∈ es := by
          clear kl ry hy db rb
          revert hl
          generalize kvs'.map (·.1) = ks
          clear sb sd
          induction ks generalizing es with
          | nil => intro q; cases q
          | cons k0 ks ih =>
            intro q
            cases es with
            | nil => cases q
            | cons e0 es =>
              simp only [look] at q
              split at q
              · cases q; exact List.mem_cons_self
              · exact List.mem_cons_of_mem _ (ih q)
        exact .hit hy ((eq_two (reads_data I h1 e2) ry (sd d List.mem_cons_self) (sb e he) hu).inModel _ _) (hits_of hu I rb db sb r h2 fun d hd => sd d (List.mem_cons_of_mem _ hd))
theorem cmp_eqd (hu : X.A.units + 65 < cLine) : OpR X (compareOp .Eq) (fun x y H Q => ∃ F μ S p q r, Bears X.K cl F μ H S ∧ Vw X.K cl (Gz F μ S H) H p x ∧ Vw X.K cl (Gz F μ S H) H q y ∧ pyEq p q = some r ∧ Q (.bl r) H) := by
  intro pins s σ H x y v u Q I rx ry h
  obtain ⟨F, μ, S, p, q, r, B, vp, vq, hr, h⟩ := h
  have gen : ∀ d e, dataOf p = some d → dataOf q = some e → r = PyData.eqv d e → wpAny (model X.prog X.w) X.A (compareOp .Eq v u) (EP X pins σ Q) X.xe s := fun d e hd he hre => by
    obtain ⟨d1, d2⟩ := dataOf_some hd
    obtain ⟨e1, e2⟩ := dataOf_some he
    subst hre
    exact op_eqD (by omega) pins s σ H x y v u Q I rx ry ⟨d, e, dp_vw gz_gle vp d1, dp_vw gz_gle vq e1, d2, e2, h⟩
  have gen2 : (match dataOf p, dataOf q with
    | some d, some e => some (PyData.eqv d e)
    | _, _ => none) = some r → wpAny (model X.prog X.w) X.A (compareOp .Eq v u) (EP X pins σ Q) X.xe s := fun hq => by
    cases hd : dataOf p with
    | none => rw [hd] at hq; cases hq
    | some d =>
      cases he : dataOf q with
      | none => rw [hd, he] at hq; cases hq
      | some e =>
        rw [hd, he] at hq
        exact gen d e hd he (Option.some.inj hq).symm
  by_cases c : (∃ ks vs, p = .dk ks vs) ∧ ∃ ks vs, q = .dk ks vs
  · obtain ⟨⟨ks, vs, rfl⟩, ks', vs', rfl⟩ := c
    simp only [pyEq] at hr
    cases hd : datas vs with
    | none => rw [hd] at hr; cases hr
    | some ds =>
      cases he : datas vs' with
      | none => rw [hd, he] at hr; cases hr
      | some es =>
        rw [hd, he] at hr
        obtain ⟨d1, d2⟩ := datas_some hd
        obtain ⟨e1, e2⟩ := datas_some he
        obtain ⟨a, kvs, rfl, ha, ka, ra⟩ := vp
        obtain ⟨b, kvs', rfl, hb, kb, rb⟩ := vq
        subst ka; subst kb
        obtain rfl : v = Value.ref a := rx
        obtain rfl : u = Value.ref b := ry
        obtain ⟨_, ya, va, rva, da⟩ := dk_rd I.hok ha
        obtain ⟨_, yb, vb, rvb, db⟩ := dk_rd I.hok hb
        refine PySem.W.keq_eqIn (knd := mixKind X.prog X.w) ya yb da db (by omega) (fun _ => hits_of (by show X.A.units + 1 + 64 < cLine; omega) I rvb (dp_reps gz_gle _ _ _ rb e1) e2 rva (dp_reps gz_gle _ _ _ ra d1) d2) (fin_bl I h ?_)
        have l1 := Paired.length rva
        have l2 := Paired.length rvb
        rw [← Option.some.inj hr]
        simp [l1, l2]
  · refine gen2 ?_
    unfold pyEq at hr
    split at hr
    · exact absurd ⟨⟨_, _, rfl⟩, _, _, rfl⟩ c
    · exact hr
end
end PD
/-! More of the machine's operations on values that stand for data. -/
namespace PD
open PySem L2 PySem.Spec PyProof.Rows
section
variable {X : Cx} {cl : Nat → Addr} {W : XK}
theorem cmp_eq (hu : X.A.units + 65 < cLine) : OpR X (compareOp .Eq) (RO2 X cl W .eq) := by
  intro pins s σ H x y v u Q I rx ry h
  obtain ⟨F, μ, S, p, q, z, B, vp, vq, hz, h⟩ := h
  have hz' : (pyEq p q).map P.bl = some z := by
    have e : prim2 .eq p q = (pyEq p q).map P.bl := by cases p <;> cases q <;> rfl
    rw [← e]; exact hz
  obtain ⟨r, hr, rfl⟩ := Option.map_eq_some_iff.mp hz'
  exact cmp_eqd hu pins s σ H x y v u Q I rx ry ⟨F, μ, S, p, q, r, B, vp, vq, hr, give B h rfl⟩
theorem cmp_ne (hu : X.A.units + 65 < cLine) : OpR X (compareOp .NotEq) (RO2 X cl W .ne) := by
  intro pins s σ H x y v u Q I rx ry h
  obtain ⟨F, μ, S, p, q, z, B, vp, vq, hz, h⟩ := h
  have hz' : (pyEqD p q).map (fun r => P.bl (!r)) = some z := by
    have e : prim2 .ne p q = (pyEqD p q).map (fun r => P.bl (!r)) := by cases p <;> cases q <;> rfl
    rw [← e]; exact hz
  obtain ⟨r, hr, rfl⟩ := Option.map_eq_some_iff.mp hz'
  unfold pyEqD at hr
  cases hd : dataOf p with
  | none => rw [hd] at hr; cases hr
  | some d =>
    cases he : dataOf q with
    | none => rw [hd, he] at hr; cases hr
    | some e =>
      rw [hd, he] at hr
      cases hr
      obtain ⟨d1, d2⟩ := dataOf_some hd
      obtain ⟨e1, e2⟩ := dataOf_some he
      exact op_neD (by omega) pins s σ H x y v u Q I rx ry ⟨d, e, dp_vw gz_gle vp d1, dp_vw gz_gle vq e1, d2, e2, give B h rfl⟩

/-! ### membership -/
theorem canAll : ∀ {ds : List PyData}, (∀ d ∈ ds, SeqAt.shaped d = true) → PyData.canLayAll0 ds = true
  | [], _ => by simp [PyData.canLayAll0]
  | d :: ds, h => by simp only [PyData.canLayAll0, Bool.and_eq_true]; exact ⟨SeqAt.canLay_of_shaped (h d List.mem_cons_self), canAll fun e he => h e (List.mem_cons_of_mem _ he)⟩
theorem inList_some {x : P} {l : List P} {r : Bool} (h : inList x l = some r) : ∃ d ds, toPD x = some d ∧ SeqAt.shaped d = true ∧ toPDs l = some ds ∧ PyData.canLayAll0 ds = true ∧ r = ds.any fun e => PyData.eqv e d := by
  unfold inList at h
  cases hd : dataOf x with
  | none => rw [hd] at h; cases h
  | some d =>
    cases he : datas l with
    | none => rw [hd, he] at h; cases h
    | some ds =>
      rw [hd, he] at h
      obtain ⟨d1, d2⟩ := dataOf_some hd
      obtain ⟨e1, e2⟩ := datas_some he
      exact ⟨d, ds, d1, d2, e1, canAll e2, (Option.some.inj h).symm⟩
/-- a list or a tuple, and what is asked in it -/
def seqOf : P → Option (Bool × List P)
  | .lst l => some (true, l)
  | .fls l => some (true, l)
  | .tup l => some (false, l)
  | .ktup l => some (false, l)
  | _ => none
theorem mem_seq (hu : X.A.units + 66 < cLine) {pins : List (Addr × Obj)} {s : Shared} {σ : L2.St} {H : Hp} {x y : V} {v u : Value} {Q : VK} (I : Inv X pins σ H s) (rx : RelV x v) (ry : RelV y u) {G : Hp} (g : Gle G H)
    {p q : P} {b : Bool} {l : List P} {r : Bool} (vp : Vw X.K cl G H p x) (vq : Vw X.K cl G H q y) (hq : seqOf q = some (b, l)) (hr : inList p l = some r) :
    (Q (.bl r) H → wpAny (model X.prog X.w) X.A (compareOp .In v u) (EP X pins σ Q) X.xe s) ∧ (Q (.bl (!r)) H → wpAny (model X.prog X.w) X.A (compareOp .NotIn v u) (EP X pins σ Q) X.xe s) := by
  obtain ⟨d, ds, d1, d2, e1, e2, rfl⟩ := inList_some hr
  obtain ⟨as, r1⟩ := reads_data I (dp_vw g vp d1) rx
  have hc := SeqAt.canLay_of_shaped d2
  have hdp := SeqAt.depth_of_shaped d2
  have hm : ∀ n, min n d.depth ≤ 64 := fun n => Nat.le_trans (Nat.min_le_right _ _) hdp
  have hu' : X.A.units + 1 + min (PyData.depthAll ds) d.depth < cLine := by have := hm (PyData.depthAll ds); omega
  let goal : Prop := (Q (.bl (ds.any fun e => PyData.eqv e d)) H → wpAny (model X.prog X.w) X.A (compareOp .In v u) (EP X pins σ Q) X.xe s) ∧ (Q (.bl (!ds.any fun e => PyData.eqv e d)) H → wpAny (model X.prog X.w) X.A (compareOp .NotIn v u) (EP X pins σ Q) X.xe s)
  show goal
  have lst : toPD q = some (.list ds) → goal := fun e => by
    obtain ⟨bs, r2⟩ := reads_data I (dp_vw g vq e) ry
    exact ⟨fun h => SeqAt.in_list_reads r2 r1 e2 hc hu' ⟨.bl _, H, I, rfl, h⟩, fun h => SeqAt.notIn_list_reads r2 r1 e2 hc hu' ⟨.bl _, H, I, rfl, h⟩⟩
  have tup : toPD q = some (.tuple ds) → goal := fun e => by
    obtain ⟨bs, r2⟩ := reads_data I (dp_vw g vq e) ry
    exact ⟨fun h => SeqAt.in_tuple_reads r2 r1 e2 hc hu' ⟨.bl _, H, I, rfl, h⟩, fun h => SeqAt.notIn_tuple_reads r2 r1 e2 hc hu' ⟨.bl _, H, I, rfl, h⟩⟩
  cases q <;> cases hq
  · exact tup (by simp only [toPD, e1]; rfl)
  · exact lst (by simp only [toPD, e1]; rfl)
  · exact tup (by simp only [toPD, e1]; rfl)
  · exact lst (by simp only [toPD, e1]; rfl)
theorem cmp_mem (hu : X.A.units + 66 < cLine) : OpR X (compareOp .In) (RO2 X cl W .mem) := by
  intro pins s σ H x y v u Q I rx ry h
  obtain ⟨F, μ, S, p, q, z, B, vp, vq, hz, h⟩ := h
  have seq : ∀ b l, seqOf q = some (b, l) → prim2 .mem p q = (inList p l).map P.bl → wpAny (model X.prog X.w) X.A (compareOp .In v u) (EP X pins σ Q) X.xe s := fun b l hq e => by
    rw [e] at hz
    obtain ⟨r, hr, rfl⟩ := Option.map_eq_some_iff.mp hz
    exact (mem_seq hu I rx ry gz_gle vp vq hq hr).1 (give B h rfl)
  cases q with
  | non => cases p <;> cases hz
  | bl _ => cases p <;> cases hz
  | int _ => cases p <;> cases hz
  | str _ => cases p <;> cases hz
  | ins _ _ _ => cases p <;> cases hz
  | dt _ _ => cases p <;> cases hz
  | tup l => exact seq _ l rfl (by cases p <;> rfl)
  | lst l => exact seq _ l rfl (by cases p <;> rfl)
  | ktup l => exact seq _ l rfl (by cases p <;> rfl)
  | fls l => exact seq _ l rfl (by cases p <;> rfl)
  | dk ks vs =>
    have e : prim2 .mem p (.dk ks vs) = (keyOf p).map fun k => P.bl (hasK ks k) := by cases p <;> rfl
    rw [e] at hz
    obtain ⟨k, hk, rfl⟩ := Option.map_eq_some_iff.mp hz
    obtain ⟨b, kvs, rfl, hb, ek, rb⟩ := vq
    obtain rfl : u = Value.ref b := ry
    have hx := key_of hk vp
    subst hx
    refine d_in (by omega) I (.inl ⟨kvs, k, hb, rfl, rfl⟩) rx fun s' I' => ⟨.bl _, H, I', rfl, ?_⟩
    rw [valV_some_in, ek]
    exact give B h rfl
theorem cmp_nmem (hu : X.A.units + 66 < cLine) : OpR X (compareOp .NotIn) (RO2 X cl W .nmem) := by
  intro pins s σ H x y v u Q I rx ry h
  obtain ⟨F, μ, S, p, q, z, B, vp, vq, hz, h⟩ := h
  have seq : ∀ b l, seqOf q = some (b, l) → prim2 .nmem p q = (inList p l).map (fun r => P.bl (!r)) → wpAny (model X.prog X.w) X.A (compareOp .NotIn v u) (EP X pins σ Q) X.xe s := fun b l hq e => by
    rw [e] at hz
    obtain ⟨r, hr, rfl⟩ := Option.map_eq_some_iff.mp hz
    exact (mem_seq hu I rx ry gz_gle vp vq hq hr).2 (give B h rfl)
  cases q with
  | non => cases p <;> cases hz
  | bl _ => cases p <;> cases hz
  | int _ => cases p <;> cases hz
  | str _ => cases p <;> cases hz
  | ins _ _ _ => cases p <;> cases hz
  | dt _ _ => cases p <;> cases hz
  | tup l => exact seq _ l rfl (by cases p <;> rfl)
  | lst l => exact seq _ l rfl (by cases p <;> rfl)
  | ktup l => exact seq _ l rfl (by cases p <;> rfl)
  | fls l => exact seq _ l rfl (by cases p <;> rfl)
  | dk ks vs =>
    have e : prim2 .nmem p (.dk ks vs) = (keyOf p).map fun k => P.bl (!hasK ks k) := by cases p <;> rfl
    rw [e] at hz
    obtain ⟨k, hk, rfl⟩ := Option.map_eq_some_iff.mp hz
    obtain ⟨b, kvs, rfl, hb, ek, rb⟩ := vq
    obtain rfl : u = Value.ref b := ry
    have hx := key_of hk vp
    subst hx
    refine d_notIn (by omega) I (.inl ⟨kvs, k, hb, rfl, rfl⟩) rx fun s' I' => ⟨.bl _, H, I', rfl, ?_⟩
    rw [valV_some_in, ek]
    exact give B h rfl
def cmpOf : CmpOp → Option Op2
  | .Eq => some .eq | .NotEq => some .ne | .Lt => some .lt | .LtE => some .le | .Gt => some .gt | .GtE => some .ge | .In => some .mem | .NotIn => some .nmem | _ => none
theorem cmp_ok (hu : X.A.units + 66 < cLine) {op : CmpOp} {o : Op2} (h : cmpOf op = some o) : OpR X (compareOp op) (RO2 X cl W o) := by
  cases op <;> cases h
  · exact cmp_eq (by omega)
  · exact cmp_ne (by omega)
  · exact cmp_lt
  · exact cmp_le
  · exact cmp_gt
  · exact cmp_ge
  · exact cmp_mem hu
  · exact cmp_nmem hu

/-! ### subscripts -/
theorem ix_ok (hu : X.A.units + 66 < cLine) : IxR X (RO2 X cl W .ix) := by
  intro value slice pins s σ H x y v u Q I rx ry h hs
  obtain ⟨F, μ, S, p, q, z, B, vp, vq, hz, h⟩ := h
  have hsq : ∀ l i, q = .int i → atI l i = some z → (∃ a xs, x = .ref a ∧ (SqL X.K H a xs ∨ SqT X.K H a xs) ∧ RepL X.K cl (Gz F μ S H) l xs) → wpAny (model X.prog X.w) X.A (subscriptTail value slice v u) (EP X pins σ Q) X.xe s := fun l i hq hi hx => by
    obtain ⟨a, xs, rfl, hx, r⟩ := hx
    subst hq
    obtain ⟨w', hw, rw'⟩ := atI_rep r hi
    rcases hx with hx | hx
    · exact ix_list value slice pins s σ H _ y v u Q I rx ry ⟨a, xs, i, w', rfl, vq, hx, hw, give B h rw'⟩ hs
    · exact ix_tup value slice pins s σ H _ y v u Q I rx ry ⟨a, xs, i, w', rfl, vq, hx, hw, give B h rw'⟩ hs
  cases p with
  | non => cases q <;> cases hz
  | bl _ => cases q <;> cases hz
  | int _ => cases q <;> cases hz
  | ins _ _ _ => cases q <;> cases hz
  | str w' =>
    cases q <;> first | (cases hz; done) | skip
    simp only [prim2] at hz
    split at hz
    · obtain ⟨c, hc, rfl⟩ := Option.map_eq_some_iff.mp hz
      exact ix_str value slice pins s σ H x y v u Q I rx ry ⟨_, _, c, vp, vq, by assumption, hc, give B h rfl⟩ hs
    · cases hz
  | tup l =>
    cases q <;> first | (cases hz; done) | skip
    obtain ⟨a, xs, rfl, ha, r⟩ := vp
    exact hsq l _ rfl hz ⟨a, xs, rfl, .inr (.inl (.inl (gz_gle.ex a (.tup xs) trivial ha))), r⟩
  | lst l =>
    cases q <;> first | (cases hz; done) | skip
    obtain ⟨a, xs, rfl, ha, r⟩ := vp
    exact hsq l _ rfl hz ⟨a, xs, rfl, .inl (.inl (.inl ha)), r⟩
  | ktup l =>
    cases q <;> first | (cases hz; done) | skip
    obtain ⟨a, xs, rfl, ha, r⟩ := vp
    exact hsq l _ rfl hz ⟨a, xs, rfl, .inr (gz_gle.sqT ha), r⟩
  | fls l =>
    cases q <;> first | (cases hz; done) | skip
    obtain ⟨a, xs, rfl, ha, r⟩ := vp
    exact hsq l _ rfl hz ⟨a, xs, rfl, .inl (gz_gle.sqL ha), r⟩
  | dk ks vs =>
    have e : prim2 .ix (.dk ks vs) q = (keyOf q).bind (look ks vs) := by cases q <;> rfl
    rw [e] at hz
    obtain ⟨k, hk, hl⟩ := Option.bind_eq_some_iff.mp hz
    obtain ⟨b, kvs, rfl, hb, ek, rb⟩ := vp
    obtain rfl : v = Value.ref b := rx
    have hx := key_of hk vq
    subst hx
    obtain ⟨w', hw, rw'⟩ := (look_val ek rb).1 z hl
    have g : DGet H b (kV k) (some w') := .inl ⟨kvs, k, hb, rfl, hw.symm⟩
    exact tail_any (dict_typeIs I g) PySem.F.slot_dict_getitem.lookup (d_getItem (by omega) I g ry fun w2 s2 I2 r2 => ⟨w', H, I2, r2, give B h rw'⟩) hs
  | dt ks vs =>
    have e : prim2 .ix (.dt ks vs) q = (tkeyOf q).bind (look ks vs) := by cases q <;> rfl
    rw [e] at hz
    obtain ⟨k, hk, hl⟩ := Option.bind_eq_some_iff.mp hz
    obtain ⟨b, kvs, rfl, hb, ek, rb⟩ := vp
    obtain rfl : v = Value.ref b := rx
    cases q <;> first | (cases hk; done) | skip
    obtain ⟨c, ys, rfl, hc, rc⟩ := vq
    have ec := keys_of hk rc
    subst ec
    obtain ⟨w', hw, rw'⟩ := (look_val ek rb).1 z hl
    have g : DGet H b (.ref c) (some w') := .inr ⟨kvs, k, c, hb, rfl, gz_gle.ex c (.tup _) trivial hc, hw.symm⟩
    exact tail_any (dict_typeIs I g) PySem.F.slot_dict_getitem.lookup (d_getItem (by omega) I g ry fun w2 s2 I2 r2 => ⟨w', H, I2, r2, give B h rw'⟩) hs
end
end PD
/-! Calls of built-ins, slices, isinstance, methods on values that stand for data. -/
namespace PD
open PySem L2 PySem.Spec PyProof.Rows
section
variable {X : Cx} {cl : Nat → Addr} {W : XK}
/-- a call of a built-in with one value -/
abbrev RC1 (X : Cx) (cl : Nat → Addr) (W : XK) (o : Op1) : List V → Hp → VK → Prop := fun xs H Q => ∃ x, xs = [x] ∧ RO1 X cl W o x H Q
theorem call_len_ok : CallR X (.builtin "len") (RC1 X cl W .len) := by
  intro pins s σ H xs us Q I r h
  obtain ⟨x, rfl, F, μ, S, p, z, B, vp, hz, h⟩ := h
  cases p with
  | non => cases hz
  | bl _ => cases hz
  | int _ => cases hz
  | ins _ _ _ => cases hz
  | dt _ _ => cases hz
  | str w =>
    simp only [prim1] at hz
    split at hz
    · cases hz
      exact call_len pins s σ H _ us Q I r ⟨x, w.length, rfl, by rw [vw_str vp]; exact ⟨by assumption, rfl⟩, give B h rfl⟩
    · cases hz
  | lst l =>
    cases hz
    obtain ⟨a, ys, rfl, ha, ra⟩ := vp
    exact call_len pins s σ H _ us Q I r ⟨_, ys.length, rfl, .inl ⟨ys, .inl (.inl ha), rfl⟩, by rw [← ra.len]; exact give B h rfl⟩
  | fls l =>
    cases hz
    obtain ⟨a, ys, rfl, ha, ra⟩ := vp
    exact call_len pins s σ H _ us Q I r ⟨_, ys.length, rfl, .inl ⟨ys, gz_gle.sqL ha, rfl⟩, by rw [← ra.len]; exact give B h rfl⟩
  | tup l =>
    cases hz
    obtain ⟨a, ys, rfl, ha, ra⟩ := vp
    exact call_len pins s σ H _ us Q I r ⟨_, ys.length, rfl, .inr ⟨ys, .inl (.inl (gz_gle.ex a (.tup ys) trivial ha)), rfl⟩, by rw [← ra.len]; exact give B h rfl⟩
  | ktup l =>
    cases hz
    obtain ⟨a, ys, rfl, ha, ra⟩ := vp
    exact call_len pins s σ H _ us Q I r ⟨_, ys.length, rfl, .inr ⟨ys, gz_gle.sqT ha, rfl⟩, by rw [← ra.len]; exact give B h rfl⟩
  | dk ks vs =>
    cases hz
    obtain ⟨a, kvs, rfl, ha, hk, ra⟩ := vp
    obtain ⟨u, rfl, ru⟩ := vals1 r
    obtain rfl : u = Value.ref a := ru
    refine d_len I ha fun t s' I' => ⟨.int kvs.length, H, I', ⟨t, rfl⟩, ?_⟩
    have e : kvs.length = ks.length := by rw [← hk, List.length_map]
    rw [e]
    exact give B h rfl
theorem call_abs_ok : CallR X (.builtin "abs") (RC1 X cl W .abs) := by
  intro pins s σ H xs us Q I r h
  obtain ⟨x, rfl, F, μ, S, p, z, B, vp, hz, h⟩ := h
  cases p <;> first | (cases hz; done) | skip
  cases hz
  exact call_abs pins s σ H _ us Q I r ⟨_, by rw [vw_int vp], give B h rfl⟩
theorem call_int_ok : CallR X (.type "int") (RC1 X cl W .int) := by
  intro pins s σ H xs us Q I r h
  obtain ⟨x, rfl, F, μ, S, p, z, B, vp, hz, h⟩ := h
  cases p <;> first | (cases hz; done) | skip
  · cases hz
    exact call_int1 pins s σ H _ us Q I r (.inr ⟨_, by rw [vw_bl vp], give B h rfl⟩)
  · cases hz
    exact call_int1 pins s σ H _ us Q I r (.inl ⟨_, by rw [vw_int vp], give B h rfl⟩)
theorem call_str_ok : CallR X (.type "str") (RC1 X cl W .str) := by
  intro pins s σ H xs us Q I r h
  obtain ⟨x, rfl, F, μ, S, p, z, B, vp, hz, h⟩ := h
  cases p <;> first | (cases hz; done) | skip
  simp only [prim1] at hz
  split at hz
  · cases hz
    exact call_str_int pins s σ H _ us Q I r ⟨_, by rw [vw_int vp], by assumption, give B h rfl⟩
  · cases hz
theorem call_list_ok : CallR X (.type "list") (RC1 X cl W .list) := by
  intro pins s σ H xs us Q I r h
  obtain ⟨x, rfl, F, μ, S, p, z, B, vp, hz, h⟩ := h
  cases p <;> first | (cases hz; done) | skip
  · cases hz
    obtain ⟨a, ys, rfl, ha, ra⟩ := vp
    exact call_list_of pins s σ H _ us Q I r ⟨a, ys, rfl, .inr (.inl (.inl (gz_gle.ex a (.tup ys) trivial ha))), give_lst B h ra⟩
  · cases hz
    obtain ⟨a, ys, rfl, ha, ra⟩ := vp
    exact call_list_of pins s σ H _ us Q I r ⟨a, ys, rfl, .inl (.inl (.inl ha)), give_lst B h ra⟩
  · cases hz
    obtain ⟨a, ys, rfl, ha, ra⟩ := vp
    exact call_list_of pins s σ H _ us Q I r ⟨a, ys, rfl, .inr (gz_gle.sqT ha), give_lst B h ra⟩
  · cases hz
    obtain ⟨a, ys, rfl, ha, ra⟩ := vp
    exact call_list_of pins s σ H _ us Q I r ⟨a, ys, rfl, .inl (gz_gle.sqL ha), give_lst B h ra⟩
theorem call_tuple_ok : CallR X (.type "tuple") (RC1 X cl W .tuple) := by
  intro pins s σ H xs us Q I r h
  obtain ⟨x, rfl, F, μ, S, p, z, B, vp, hz, h⟩ := h
  cases p <;> first | (cases hz; done) | skip
  · cases hz
    obtain ⟨a, ys, rfl, ha, ra⟩ := vp
    exact call_tuple_of pins s σ H _ us Q I r ⟨a, ys, rfl, .inr ⟨.inl (.inl (gz_gle.ex a (.tup ys) trivial ha)), give B h ⟨a, ys, rfl, ha, ra⟩⟩⟩
  · cases hz
    obtain ⟨a, ys, rfl, ha, ra⟩ := vp
    exact call_tuple_of pins s σ H _ us Q I r ⟨a, ys, rfl, .inl ⟨.inl (.inl ha), give_tup B h ra⟩⟩
  · cases hz
    obtain ⟨a, ys, rfl, ha, ra⟩ := vp
    exact call_tuple_of pins s σ H _ us Q I r ⟨a, ys, rfl, .inl ⟨gz_gle.sqL ha, give_tup B h ra⟩⟩
/-! ### sorted -/
theorem ints_of {K : PySem.W.Frag} {G : Hp} : ∀ {l : List P} {ns : List Int} {xs : List V}, intsOf l = some ns → RepL K cl G l xs → xs = ns.map V.int
  | [], ns, xs, h, r => by cases h; exact r
  | p :: l, ns, xs, h, ⟨v, t, e, r1, r2⟩ => by
    cases p <;> first | (cases h; done) | skip
    simp only [intsOf] at h
    obtain ⟨ms, h1, h2⟩ := Option.map_eq_some_iff.mp h
    subst h2
    rw [e, ints_of h1 r2, show v = _ from r1]
    rfl
theorem ikeys_of : ∀ {ks : List Key} {ns : List Int}, ikeys ks = some ns → ks = ns.map Sum.inl
  | [], ns, h => by cases h; rfl
  | .inl i :: ks, ns, h => by
    simp only [ikeys] at h
    obtain ⟨ms, h1, h2⟩ := Option.map_eq_some_iff.mp h
    subst h2
    rw [ikeys_of h1]
    rfl
  | .inr _ :: _, _, h => by cases h
theorem sort_uniq : ∀ {l m : List Int}, l.Perm m → l.Pairwise (· ≤ ·) → m.Pairwise (· ≤ ·) → l = m := fun {l m} p h1 h2 =>
  List.Perm.eq_of_pairwise (fun a b _ _ h1 h2 => Int.le_antisymm h1 h2) h1 h2 p
theorem merge_sorted (ns : List Int) : (ns.mergeSort (fun a b => decide (a ≤ b))).Pairwise (· ≤ ·) := by
  have h := List.pairwise_mergeSort (le := fun a b : Int => decide (a ≤ b)) (fun a b c h1 h2 => by simp at *; omega) (fun a b => by simp; omega) ns
  exact h.imp fun h => by simpa using h
theorem call_sorted_ok (hc : X.calm = true) : CallR X (.builtin "sorted") (RC1 X cl W .sortedI) := by
  intro pins s σ H xs us Q I r h
  obtain ⟨x, rfl, F, μ, S, p, z, B, vp, hz, h⟩ := h
  have one : ∀ (ns : List Int), z = .lst ((ns.mergeSort (fun a b => decide (a ≤ b))).map .int) → ∀ (ms : List Int) (q : Addr), ms.Perm ns → ms.Pairwise (· ≤ ·) → H q = none → Q (.ref q) (upd H q (.lst (ms.map V.int))) := fun ns e ms q hp hs hq => by
    subst e
    have e2 : ms = ns.mergeSort (fun a b => decide (a ≤ b)) := sort_uniq (hp.trans (List.mergeSort_perm ns _).symm) hs (merge_sorted ns)
    rw [e2]
    exact give_lst B h (repL_ints _) q hq
  cases p <;> first | (cases hz; done) | skip
  · rename_i l
    simp only [prim1] at hz
    cases hi : intsOf l with
    | none => rw [hi] at hz; cases hz
    | some ns =>
      rw [hi] at hz
      simp only at hz
      split at hz
      · cases hz
        obtain ⟨a, ys, rfl, ha, ra⟩ := vp
        rw [ints_of hi ra] at ha
        exact cr_sorted pins s σ H _ us Q I r ⟨a, ns, rfl, .inl (.inl ha), by assumption, fun ms q hp hs hq => one ns rfl ms q hp hs hq⟩
      · cases hz
  · rename_i ks vs
    simp only [prim1] at hz
    cases hi : ikeys ks with
    | none => rw [hi] at hz; cases hz
    | some ns =>
      rw [hi] at hz
      simp only at hz
      split at hz
      · cases hz
        obtain ⟨a, kvs, rfl, ha, hk, ra⟩ := vp
        exact call_sortedDI hc pins s σ H _ us Q I r ⟨a, kvs, ns, rfl, ha, by rw [hk]; exact ikeys_of hi, by assumption, fun ms q hp hs hq => one ns rfl ms q hp hs hq⟩
      · cases hz

/-! ### is None -/
theorem vw_isN {K : PySem.W.Frag} {G H : Hp} {p : P} {v : V} (h : Vw K cl G H p v) : prim1 .isN p = some (.bl (decide (v = .non))) ∧ prim1 .notN p = some (.bl (!decide (v = .non))) := by
  cases p with
  | non => cases h; exact ⟨rfl, rfl⟩
  | bl _ => cases h; exact ⟨rfl, rfl⟩
  | int _ => cases h; exact ⟨rfl, rfl⟩
  | str _ => cases h; exact ⟨rfl, rfl⟩
  | tup _ => obtain ⟨a, xs, rfl, _⟩ := h; exact ⟨rfl, rfl⟩
  | lst _ => obtain ⟨a, xs, rfl, _⟩ := h; exact ⟨rfl, rfl⟩
  | ktup _ => obtain ⟨a, xs, rfl, _⟩ := h; exact ⟨rfl, rfl⟩
  | fls _ => obtain ⟨a, xs, rfl, _⟩ := h; exact ⟨rfl, rfl⟩
  | dk _ _ => obtain ⟨a, xs, rfl, _⟩ := h; exact ⟨rfl, rfl⟩
  | dt _ _ => obtain ⟨a, xs, rfl, _⟩ := h; exact ⟨rfl, rfl⟩
  | ins _ _ _ => obtain ⟨a, dx, xs, rfl, _⟩ := h; exact ⟨rfl, rfl⟩

/-! ### slices -/
def RSl (X : Cx) (cl : Nat → Addr) (W : XK) : V → Option Int → Option Int → Hp → VK → Prop := fun x lo hi H Q => ∃ F μ S p z, Bears X.K cl F μ H S ∧ Vw X.K cl (Gz F μ S H) H p x ∧ sliceP p lo hi = some z ∧ Sat X.K cl F μ S H (RD X.K cl) (.ok (.p z) S) W Q
theorem slice_ok : SlR X (RSl X cl W) := by
  intro pins s σ H x v vl vu lo hi sl Q I rx hs pl pu h
  obtain ⟨F, μ, S, p, z, B, vp, hz, h⟩ := h
  cases p <;> first | (cases hz; done) | skip
  · cases hz
    obtain ⟨a, ys, rfl, ha, ra⟩ := vp
    have ea := gz_gle.ex a (.tup ys) trivial ha
    refine sl_tupA pins s σ H _ v vl vu lo hi sl Q I rx hs pl pu ⟨a, ys, rfl, .inl (.inl ea), fun hw => ?_, fun _ => give_tup B h (cut_rep ra)⟩
    refine give B h ⟨a, ys, rfl, ha, ?_⟩
    rename_i l
    have e2 : cutP l lo hi = l := by
      unfold cutP
      rw [ra.len, hw.1, hw.2, List.drop_zero, Nat.sub_zero]
      exact List.take_of_length_le (by rw [ra.len]; exact Nat.le_refl _)
    rw [e2]
    exact ra
  · cases hz
    obtain ⟨a, ys, rfl, ha, ra⟩ := vp
    exact sl_list pins s σ H _ v vl vu lo hi sl Q I rx hs pl pu ⟨a, ys, rfl, .inl (.inl ha), give_lst B h (cut_rep ra)⟩
  · cases hz
    obtain ⟨a, ys, rfl, ha, ra⟩ := vp
    exact sl_list pins s σ H _ v vl vu lo hi sl Q I rx hs pl pu ⟨a, ys, rfl, gz_gle.sqL ha, give_lst B h (cut_rep ra)⟩
/-! ### truth -/
theorem repL_emp {K : PySem.W.Frag} {G : Hp} {l : List P} {xs : List V} (r : RepL K cl G l xs) : (!l.isEmpty) = !xs.isEmpty := by
  cases l with
  | nil => rw [show xs = [] from r]; rfl
  | cons p l => obtain ⟨v, t, e, _⟩ := r; rw [e]; rfl
theorem truth_ok {K : PySem.W.Frag} {G H : Hp} (g : Gle G H) {p : P} {v : V} {b : Bool} (h : Vw K cl G H p v) (e : truth p = some b) : TruV K v H b := by
  cases p <;> first | (cases e; done) | skip
  · cases h; cases e; exact rfl
  · cases h; cases e; exact rfl
  · cases h; cases e; exact rfl
  · simp only [truth] at e
    split at e
    · cases e; cases h; exact ⟨by assumption, rfl⟩
    · cases e
  · obtain ⟨a, xs, rfl, ha, r⟩ := h
    cases e
    refine .inr (.inl ⟨xs, .inl (.inl (g.ex a (.tup xs) trivial ha)), ?_⟩)
    exact repL_emp r
  · obtain ⟨a, xs, rfl, ha, r⟩ := h
    cases e
    refine .inl ⟨xs, .inl (.inl ha), ?_⟩
    exact repL_emp r
  · obtain ⟨a, xs, rfl, ha, r⟩ := h
    cases e
    refine .inr (.inl ⟨xs, g.sqT ha, ?_⟩)
    exact repL_emp r
  · obtain ⟨a, xs, rfl, ha, r⟩ := h
    cases e
    refine .inl ⟨xs, g.sqL ha, ?_⟩
    exact repL_emp r
end
end PD
/-! Expressions: each construct's rule, by what the parts do. -/
namespace PD
open PySem L2 PySem.Spec PyProof.Rows
theorem _root_.L2.PE.imp {X : Cx} {e : Expr} {t t' : TE} (h : PE X e t) (q : ∀ σ H Q, t' σ H Q → t σ H Q) : PE X e t' := ⟨fun pins s σ H Q I w => h.run pins s σ H Q I (q σ H Q w)⟩
theorem _root_.L2.PT.imp {X : Cx} {e : Expr} {t t' : TT} (h : PT X e t) (q : ∀ σ H Q, t' σ H Q → t σ H Q) : PT X e t' := ⟨fun pins s σ H Q I w => h.run pins s σ H Q I (q σ H Q w)⟩
theorem _root_.L2.PW.imp {X : Cx} {e : Expr} {t t' : TT} (h : PW X e t) (q : ∀ σ H Q, t' σ H Q → t σ H Q) : PW X e t' := ⟨fun wh pins s σ H Q I w => h.run wh pins s σ H Q I (q σ H Q w)⟩
theorem _root_.L2.PA.imp {X : Cx} {es : List Expr} {t t' : TA} (h : PA X es t) (q : ∀ σ H Q, t' σ H Q → t σ H Q) : PA X es t' := ⟨fun pos pins s σ H Q I w => h.run pos pins s σ H Q I (q σ H Q w)⟩
theorem _root_.L2.PS.imp {X : Cx} {st : Stmt} {t t' : TS} (h : PS X st t) (q : ∀ D σ H, t' D σ H → t D σ H) : PS X st t' := ⟨fun pins s σ H D I w => h.run pins s σ H D I (q D σ H w)⟩
theorem _root_.L2.PSs.imp {X : Cx} {st : List Stmt} {t t' : TS} (h : PSs X st t) (q : ∀ D σ H, t' D σ H → t D σ H) : PSs X st t' := ⟨fun pins s σ H D I w => h.run pins s σ H D I (q D σ H w)⟩
/-- a choice of two rules -/
theorem _root_.L2.PE.or {X : Cx} {e : Expr} {t t' : TE} (h : PE X e t) (h' : PE X e t') : PE X e (fun σ H Q => t σ H Q ∨ t' σ H Q) := ⟨fun pins s σ H Q I w => w.elim (h.run pins s σ H Q I) (h'.run pins s σ H Q I)⟩
theorem _root_.L2.PS.or {X : Cx} {st : Stmt} {t t' : TS} (h : PS X st t) (h' : PS X st t') : PS X st (fun D σ H => t D σ H ∨ t' D σ H) := ⟨fun pins s σ H D I w => w.elim (h.run pins s σ H D I) (h'.run pins s σ H D I)⟩

/-! ### syntax -/
def noStar : Expr → Bool
  | .Starred _ _ => false
  | _ => true
theorem star_cons {e : Expr} {es : List Expr} {env : Env} (h : noStar e = true) : starEach (e :: es) env = (false, eval e env) :: starEach es env := by
  cases e <;> first | rfl | cases h
theorem star_none {env : Env} {pos : Pos} : ∀ {es : List Expr}, es.all noStar = true → (backTo pos (starEach es env)).any (·.1) = false
  | [], _ => rfl
  | e :: es, h => by
    rw [List.all_cons, Bool.and_eq_true] at h
    rw [star_cons h.1]
    show (false || (backTo pos (starEach es env)).any (·.1)) = false
    rw [star_none h.2]
    rfl
theorem star_all {env : Env} {pos : Pos} : ∀ {es : List Expr}, es.all noStar = true → (backTo pos (starEach es env)).all (fun x => !x.1) = true
  | [], _ => rfl
  | e :: es, h => by
    rw [List.all_cons, Bool.and_eq_true] at h
    rw [star_cons h.1]
    show (true && (backTo pos (starEach es env)).all (fun x => !x.1)) = true
    rw [star_all h.2]
    rfl
def noComp : Expr → Bool
  | .ListComp _ _ _ _ => false
  | .SetComp _ _ _ _ => false
  | .DictComp _ _ _ _ _ => false
  | _ => true
theorem swaps_no {e : Expr} {t : Option Expr} {l : Nat} {env : Env} (h : noComp e = true) : swapsWith e t l env = pure false := by
  cases e <;> first | rfl | cases h
def plainBase : Expr → Bool
  | .Call (.Name _ _) [] [] _ => false
  | _ => true
theorem base_plain {o : Expr} {a : Str} {env : Env} {wh : Sem Value} (h : plainBase o = true) : attributeBase o a env wh = wh := by
  unfold attributeBase
  split
  · rename_i id p0 pos
    cases h
  · rfl
def plainTest : Expr → Bool
  | .UnaryOp .Not _ _ => false
  | .BoolOp _ _ _ => false
  | .IfExp _ _ _ _ => false
  | .Compare _ _ _ _ => false
  | _ => true
theorem test_plain {e : Expr} {env : Env} (h : plainTest e = true) (wh : Sem Value) : isTrue e env wh = (do let v ← wh; standAt e.pos; holding [v] (truthy v)) := by
  cases e <;> first | rfl | (cases h; done) | skip
  rename_i op _ _
  cases op <;> first | rfl | cases h
def noSlice : Expr → Bool
  | .Slice _ _ _ _ => false
  | _ => true
theorem plain_ix {b : Expr} (h : noSlice b = true) : PlainIx b := fun o i => by
  cases b <;> first | rfl | cases h
theorem no_sl {b : Expr} (h : noSlice b = true) : NoSl b := fun o i => by
  cases b <;> first | rfl | cases h

section
variable {X : Cx} {cl : Nat → Addr} {W : WX}
abbrev WS (W : WX) (σ : L2.St) : XK := fun c d H => W c d σ H
/-- the readings: of an expression, a test, an argument list, by what they do -/
def tE (X : Cx) (cl : Nat → Addr) (W : WX) (f : List (Option D) → Sto → Res D) : TE := fun σ H Q => ∃ ρ S μ F, Bears X.K cl F μ H S ∧ RepS X.K cl μ (Gz F μ S H) σ ρ ∧ Sat X.K cl F μ S H (RD X.K cl) (f ρ S) (WS W σ) Q
def tT (X : Cx) (cl : Nat → Addr) (W : WX) (f : List (Option D) → Sto → Res Bool) : TT := fun σ H Q => ∃ ρ S μ F, Bears X.K cl F μ H S ∧ RepS X.K cl μ (Gz F μ S H) σ ρ ∧ Sat X.K cl F μ S H RB (f ρ S) (WS W σ) Q
def tA (X : Cx) (cl : Nat → Addr) (W : WX) (f : List (Option D) → Sto → Res (List D)) : TA := fun σ H Q => ∃ ρ S μ F, Bears X.K cl F μ H S ∧ RepS X.K cl μ (Gz F μ S H) σ ρ ∧ Sat X.K cl F μ S H (RDL X.K cl) (f ρ S) (WS W σ) Q
section
variable {F μ : List Addr} {S : Sto} {H : Hp} {σ : L2.St} {ρ : List (Option D)} {α β : Type} {R : List Addr → Hp → α → β → Prop} {Qf : β → Hp → Prop}
/-- an expression, then what goes on -/
theorem stepE {f : List (Option D) → Sto → Res D} {g : D → Sto → Res α} {Q : VK} (B : Bears X.K cl F μ H S) (r : RepS X.K cl μ (Gz F μ S H) σ ρ) (h : Sat X.K cl F μ S H R ((f ρ S).bind g) (WS W σ) Qf)
    (k : ∀ x H1 d S1 μ1, Bears X.K cl F μ1 H1 S1 → Fra μ S H μ1 S1 H1 → RepS X.K cl μ1 (Gz F μ1 S1 H1) σ ρ → RepD X.K cl μ1 (Gz F μ1 S1 H1) d x → Sat X.K cl F μ1 S1 H1 R (g d S1) (WS W σ) Qf → Q x H1) : tE X cl W f σ H Q :=
  ⟨ρ, S, μ, F, B, r, Sat.mono (Sat.bind h) fun x H1 ⟨d, S1, μ1, B1, f1, r1, h1⟩ => k x H1 d S1 μ1 B1 f1 (r.mono f1.pre f1.gle) r1 h1⟩
theorem stepT {f : List (Option D) → Sto → Res Bool} {g : Bool → Sto → Res α} {Q : Bool → Hp → Prop} (B : Bears X.K cl F μ H S) (r : RepS X.K cl μ (Gz F μ S H) σ ρ) (h : Sat X.K cl F μ S H R ((f ρ S).bind g) (WS W σ) Qf)
    (k : ∀ b H1 S1 μ1, Bears X.K cl F μ1 H1 S1 → Fra μ S H μ1 S1 H1 → RepS X.K cl μ1 (Gz F μ1 S1 H1) σ ρ → Sat X.K cl F μ1 S1 H1 R (g b S1) (WS W σ) Qf → Q b H1) : tT X cl W f σ H Q :=
  ⟨ρ, S, μ, F, B, r, Sat.mono (Sat.bind (R' := RB) h) fun x H1 ⟨d, S1, μ1, B1, f1, r1, h1⟩ => by
    obtain rfl : d = x := r1
    exact k d H1 S1 μ1 B1 f1 (r.mono f1.pre f1.gle) h1⟩
theorem stepA {f : List (Option D) → Sto → Res (List D)} {g : List D → Sto → Res α} {Q : List V → Hp → Prop} (B : Bears X.K cl F μ H S) (r : RepS X.K cl μ (Gz F μ S H) σ ρ) (h : Sat X.K cl F μ S H R ((f ρ S).bind g) (WS W σ) Qf)
    (k : ∀ x H1 d S1 μ1, Bears X.K cl F μ1 H1 S1 → Fra μ S H μ1 S1 H1 → RepS X.K cl μ1 (Gz F μ1 S1 H1) σ ρ → RepDL X.K cl μ1 (Gz F μ1 S1 H1) d x → Sat X.K cl F μ1 S1 H1 R (g d S1) (WS W σ) Qf → Q x H1) : tA X cl W f σ H Q :=
  ⟨ρ, S, μ, F, B, r, Sat.mono (Sat.bind h) fun x H1 ⟨d, S1, μ1, B1, f1, r1, h1⟩ => k x H1 d S1 μ1 B1 f1 (r.mono f1.pre f1.gle) r1 h1⟩
end
/-! ### names, constants -/
theorem e_var {i : Nat} {x : Str} {pos : Pos} (hN : X.N[i]? = some x) (hv : Vis X.env.scope x) (hd : (x == ("__debug__" : Str)) = false) (hcd : (x == ("__classdict__" : Str)) = false) :
    PE X (.Name x pos) (tE X cl W fun ρ S => match ρ[i]? with
      | some (some d) => .ok d S
      | _ => .bad) := by
  refine (pe_var hN hv hd hcd).imp fun σ H Q ⟨ρ, S, μ, F, B, r, h⟩ => ?_
  dsimp only at h
  cases e : ρ[i]? with
  | none => rw [e] at h; exact h.elim
  | some o =>
    cases o with
    | none => rw [e] at h; exact h.elim
    | some d =>
      rw [e] at h
      obtain ⟨v, hv, rv⟩ := r.2 i d e
      exact ⟨v, hv, h v μ H B Fra.refl rv⟩
theorem e_cst {e : Expr} {v : V} {p : P} (h : PE X e (tC v)) (r : ∀ G, Rep X.K cl G p v) : PE X e (tE X cl W fun _ S => .ok (.p p) S) :=
  h.imp fun σ H Q ⟨ρ, S, μ, F, B, _, h⟩ => h v μ H B Fra.refl (r _)
/-! ### operators -/
theorem e_un {o : Op1} {op : UnaryOp} {a : Expr} {pos : Pos} {f : List (Option D) → Sto → Res D} (ho : ∀ W, UnR X (unaryOp op) (RO1 X cl W o)) (ha : PE X a (tE X cl W f)) :
    PE X (.UnaryOp op a pos) (tE X cl W fun ρ S => (f ρ S).bind fun d S => optR ((view S d).bind fun x => (prim1 o x).map .p) S) := by
  refine ⟨fun pins s σ H Q I w => (pe_un (ho (WS W σ)) ha).run pins s σ H Q I ?_⟩
  obtain ⟨ρ, S, μ, F, B, r, h⟩ := w
  refine stepE B r h fun x H1 d S1 μ1 B1 f1 r1 rd h1 => ?_
  obtain ⟨d2, e2, h2⟩ := Sat.opt h1
  obtain ⟨p, e3, e4⟩ := Option.bind_eq_some_iff.mp e2
  obtain ⟨z, e5, rfl⟩ := Option.map_eq_some_iff.mp e4
  exact ⟨F, μ1, S1, p, z, B1, view_vw B1 rd e3, e5, h2⟩
theorem e_op2 {o : Op2} {e : Expr} {fa fb : List (Option D) → Sto → Res D} (hp : ∀ W', ∃ r : R2, (∀ x y H Q, RO2 X cl W' o x y H Q → r x y H Q) ∧ PE X e (tOp r (tE X cl W fa) (tE X cl W fb))) :
    PE X e (tE X cl W fun ρ S => (fa ρ S).bind fun d S => (fb ρ S).bind fun e S => optR ((view S d).bind fun x => (view S e).bind fun y => (prim2 o x y).map .p) S) := by
  refine ⟨fun pins s σ H Q I w => ?_⟩
  obtain ⟨r0, hr, hpe⟩ := hp (WS W σ)
  refine hpe.run pins s σ H Q I ?_
  obtain ⟨ρ, S, μ, F, B, r, h⟩ := w
  refine stepE B r h fun x H1 d S1 μ1 B1 f1 r1 rd h1 => ?_
  refine stepE B1 r1 h1 fun y H2 g S2 μ2 B2 f2 r2 rg h2 => hr _ _ _ _ ?_
  obtain ⟨d2, e2, h2⟩ := Sat.opt h2
  obtain ⟨p, e3, e4⟩ := Option.bind_eq_some_iff.mp e2
  obtain ⟨q, e6, e7⟩ := Option.bind_eq_some_iff.mp e4
  obtain ⟨z, e5, rfl⟩ := Option.map_eq_some_iff.mp e7
  exact ⟨F, μ2, S2, p, q, z, B2, view_vw B2 (rd.mono f2.pre f2.gle) e3, view_vw B2 rg e6, e5, h2⟩
theorem e_bin {o : Op2} {op : Operator} {a b : Expr} {pos : Pos} {fa fb : List (Option D) → Sto → Res D} (ho : opOf op = some o) (ha : PE X a (tE X cl W fa)) (hb : PE X b (tE X cl W fb)) :
    PE X (.BinOp a op b pos) (tE X cl W fun ρ S => (fa ρ S).bind fun d S => (fb ρ S).bind fun e S => optR ((view S d).bind fun x => (view S e).bind fun y => (prim2 o x y).map .p) S) :=
  e_op2 fun W' => ⟨_, fun _ _ _ _ h => h, pe_op (bin_ok ho) ha hb⟩
theorem c_cmp (hu : X.A.units + 66 < cLine) {o : Op2} {op : CmpOp} {a b : Expr} {fa fb : List (Option D) → Sto → Res D} (ho : cmpOf op = some o) (ha : PE X a (tE X cl W fa)) (hb : PE X b (tE X cl W fb)) :
    PC X op a b (tE X cl W fun ρ S => (fa ρ S).bind fun d S => (fb ρ S).bind fun e S => optR ((view S d).bind fun x => (view S e).bind fun y => (prim2 o x y).map .p) S) := by
  refine ⟨fun pins s σ H Q I w => ?_⟩
  obtain ⟨ρ, S, μ, F, B, r, h⟩ := w
  refine binT ha hb I (R := fun x y H => RO2 X cl (WS W σ) o x y H Q) ?_ fun v u s2 x y H2 I2 rx ry q => cmp_ok (cl := cl) (W := WS W σ) hu ho pins s2 σ H2 x y v u Q I2 rx ry q
  refine stepE B r h fun x H1 d S1 μ1 B1 f1 r1 rd h1 => ?_
  refine stepE B1 r1 h1 fun y H2 g S2 μ2 B2 f2 r2 rg h2 => ?_
  obtain ⟨d2, e2, h2⟩ := Sat.opt h2
  obtain ⟨p, e3, e4⟩ := Option.bind_eq_some_iff.mp e2
  obtain ⟨q, e6, e7⟩ := Option.bind_eq_some_iff.mp e4
  obtain ⟨z, e5, rfl⟩ := Option.map_eq_some_iff.mp e7
  exact ⟨F, μ2, S2, p, q, z, B2, view_vw B2 (rd.mono f2.pre f2.gle) e3, view_vw B2 rg e6, e5, h2⟩
theorem e_ix (hu : X.A.units + 66 < cLine) {a b : Expr} {pos : Pos} {fa fb : List (Option D) → Sto → Res D} (hs : noSlice b = true) (ha : PE X a (tE X cl W fa)) (hb : PE X b (tE X cl W fb)) :
    PE X (.Subscript a b pos) (tE X cl W fun ρ S => (fa ρ S).bind fun d S => (fb ρ S).bind fun e S => optR ((view S d).bind fun x => (view S e).bind fun y => (prim2 .ix x y).map .p) S) :=
  e_op2 fun W' => ⟨_, fun _ _ _ _ h => h, pe_ix (ix_ok hu) ha hb (plain_ix hs)⟩
theorem PC.imp {X : Cx} {op : CmpOp} {a b : Expr} {t t' : TE} (h : PC X op a b t) (q : ∀ σ H Q, t' σ H Q → t σ H Q) : PC X op a b t' := ⟨fun pins s σ H Q I w => h.run pins s σ H Q I (q σ H Q w)⟩
theorem c_isN {o : Op1} {op : CmpOp} {a : Expr} {j : Nat} {p2 : Pos} {f : List (Option D) → Sto → Res D} (ho : (o = .isN ∧ op = .Is) ∨ (o = .notN ∧ op = .IsNot)) (ha : PE X a (tE X cl W f)) :
    PC X op a (.Constant .none j p2) (tE X cl W fun ρ S => (f ρ S).bind fun d S => optR ((view S d).bind fun x => (prim1 o x).map .p) S) := by
  rcases ho with ⟨rfl, rfl⟩ | ⟨rfl, rfl⟩
  · refine PC.imp (pc_isN ha) fun σ H Q ⟨ρ, S, μ, F, B, r, h⟩ => stepE B r h fun x H1 d S1 μ1 B1 f1 r1 rd h1 => ?_
    obtain ⟨d2, e2, h2⟩ := Sat.opt h1
    obtain ⟨p, e3, e4⟩ := Option.bind_eq_some_iff.mp e2
    obtain ⟨z, e5, rfl⟩ := Option.map_eq_some_iff.mp e4
    rw [(vw_isN (view_vw B1 rd e3)).1] at e5
    cases e5
    exact give B1 h2 rfl
  · refine PC.imp (pc_notN ha) fun σ H Q ⟨ρ, S, μ, F, B, r, h⟩ => stepE B r h fun x H1 d S1 μ1 B1 f1 r1 rd h1 => ?_
    obtain ⟨d2, e2, h2⟩ := Sat.opt h1
    obtain ⟨p, e3, e4⟩ := Option.bind_eq_some_iff.mp e2
    obtain ⟨z, e5, rfl⟩ := Option.map_eq_some_iff.mp e4
    rw [(vw_isN (view_vw B1 rd e3)).2] at e5
    cases e5
    exact give B1 h2 rfl
theorem un_neg_ok (W : XK) : UnR X (unaryOp .USub) (RO1 X cl W .neg) := by
  intro pins s σ H x v Q I rx h
  obtain ⟨F, μ, S, p, z, B, vp, hz, h⟩ := h
  cases p <;> first | (cases hz; done) | skip
  cases hz
  exact un_neg pins s σ H x v Q I rx ⟨_, vp, give B h rfl⟩
/-- not, of a bool, as a value -/
theorem e_not {a : Expr} {pos : Pos} {f : List (Option D) → Sto → Res D} (ha : PE X a (tE X cl W f)) :
    PE X (.UnaryOp .Not a pos) (tE X cl W fun ρ S => (f ρ S).bind fun d S => optR ((view S d).bind fun x => (prim1 .not x).map .p) S) := by
  refine (pe_not ha).imp fun σ H Q ⟨ρ, S, μ, F, B, r, h⟩ => stepE B r h fun x H1 d S1 μ1 B1 f1 r1 rd h1 => ?_
  obtain ⟨d2, e2, h2⟩ := Sat.opt h1
  obtain ⟨p, e3, e4⟩ := Option.bind_eq_some_iff.mp e2
  obtain ⟨z, e5, rfl⟩ := Option.map_eq_some_iff.mp e4
  cases p <;> first | (cases e5; done) | skip
  cases e5
  exact ⟨_, view_vw B1 rd e3, give B1 h2 rfl⟩
/-- a value that is a known bool -/
theorem rep_bl {G : Hp} {b : Bool} {μ : List Addr} {x : V} (h : RepD X.K cl μ G (.p (.bl b)) x) : x = .bl b := h
theorem e_and {a b : Expr} {r : List Expr} {pos : Pos} {fa fb : List (Option D) → Sto → Res D} (ha : PE X a (tE X cl W fa)) (hb : PE X (.BoolOp .And (b :: r) pos) (tE X cl W fb)) :
    PE X (.BoolOp .And (a :: b :: r) pos) (tE X cl W fun ρ S => (fa ρ S).bind fun d S => match d with
      | .p (.bl true) => fb ρ S
      | .p (.bl false) => .ok (.p (.bl false)) S
      | _ => .bad) := by
  refine (pe_and ha hb).imp fun σ H Q ⟨ρ, S, μ, F, B, r, h⟩ => stepE B r h fun x H1 d S1 μ1 B1 f1 r1 rd h1 => ?_
  split at h1
  · obtain rfl := rep_bl rd
    exact ⟨true, rfl, ⟨ρ, S1, μ1, F, B1, r1, h1⟩⟩
  · obtain rfl := rep_bl rd
    exact ⟨false, rfl, give B1 h1 rfl⟩
  · exact h1.elim
theorem e_or {a b : Expr} {r : List Expr} {pos : Pos} {fa fb : List (Option D) → Sto → Res D} (ha : PE X a (tE X cl W fa)) (hb : PE X (.BoolOp .Or (b :: r) pos) (tE X cl W fb)) :
    PE X (.BoolOp .Or (a :: b :: r) pos) (tE X cl W fun ρ S => (fa ρ S).bind fun d S => match d with
      | .p (.bl true) => .ok (.p (.bl true)) S
      | .p (.bl false) => fb ρ S
      | _ => .bad) := by
  refine (pe_or ha hb).imp fun σ H Q ⟨ρ, S, μ, F, B, r, h⟩ => stepE B r h fun x H1 d S1 μ1 B1 f1 r1 rd h1 => ?_
  split at h1
  · obtain rfl := rep_bl rd
    exact ⟨true, rfl, give B1 h1 rfl⟩
  · obtain rfl := rep_bl rd
    exact ⟨false, rfl, ⟨ρ, S1, μ1, F, B1, r1, h1⟩⟩
  · exact h1.elim
theorem e_ifx {c a b : Expr} {pos : Pos} {ft : List (Option D) → Sto → Res Bool} {fa fb : List (Option D) → Sto → Res D} (hc : PT X c (tT X cl W ft)) (ha : PE X a (tE X cl W fa)) (hb : PE X b (tE X cl W fb)) :
    PE X (.IfExp c a b pos) (tE X cl W fun ρ S => (ft ρ S).bind fun t S => if t then fa ρ S else fb ρ S) := by
  refine (pe_ifExp hc ha hb).imp fun σ H Q ⟨ρ, S, μ, F, B, r, h⟩ => stepT B r h fun b H1 S1 μ1 B1 f1 r1 h1 => ?_
  cases b with
  | true => exact ⟨ρ, S1, μ1, F, B1, r1, h1⟩
  | false => exact ⟨ρ, S1, μ1, F, B1, r1, h1⟩
theorem e_chain (hu : X.A.units + 66 < cLine) {o p : Op2} {op op' : CmpOp} {a b c : Expr} {pos : Pos} {fa fb fc : List (Option D) → Sto → Res D} (ho : cmpOf op = some o) (hp : cmpOf op' = some p) (hm : lastMarks [op, op'] [b, c] = false)
    (ha : PE X a (tE X cl W fa)) (hb : PE X b (tE X cl W fb)) (hc : PE X c (tE X cl W fc)) :
    PE X (.Compare a [op, op'] [b, c] pos) (tE X cl W fun ρ S => (fa ρ S).bind fun d S => (fb ρ S).bind fun e S =>
      match (view S d).bind fun x => (view S e).bind fun y => prim2 o x y with
      | some (.bl true) => (fc ρ S).bind fun g S => optR ((view S e).bind fun x => (view S g).bind fun y => (prim2 p x y).map .p) S
      | some (.bl false) => .ok (.p (.bl false)) S
      | _ => .bad) := by
  refine ⟨fun pins s σ H Q I w => (pe_chain (cmp_ok (cl := cl) (W := WS W σ) hu ho) (cmp_ok (cl := cl) (W := WS W σ) hu hp) ha hb hc hm).run pins s σ H Q I ?_⟩
  obtain ⟨ρ, S, μ, F, B, r, h⟩ := w
  refine stepE B r h fun x H1 d S1 μ1 B1 f1 r1 rd h1 => stepE B1 r1 h1 fun y H2 g S2 μ2 B2 f2 r2 rg h2 => ?_
  have rd2 := rd.mono f2.pre f2.gle (cl := cl)
  split at h2
  · rename_i e2
    obtain ⟨p1, e3, e4⟩ := Option.bind_eq_some_iff.mp e2
    obtain ⟨q1, e5, e6⟩ := Option.bind_eq_some_iff.mp e4
    refine ⟨F, μ2, S2, p1, q1, .bl true, B2, view_vw B2 rd2 e3, view_vw B2 rg e5, e6, fun v μ3 H3 B3 f3 r3 => ⟨true, r3, ?_⟩⟩
    show tE X cl W fc σ H3 _
    refine stepE B3 (r2.mono f3.pre f3.gle) (Sat.later f3 h2) fun z H4 k S4 μ4 B4 f4 r4 rk h4 => ?_
    obtain ⟨d2, e2, h4⟩ := Sat.opt h4
    obtain ⟨p2, e3, e4⟩ := Option.bind_eq_some_iff.mp e2
    obtain ⟨q2, e5, e6⟩ := Option.bind_eq_some_iff.mp e4
    obtain ⟨z2, e7, rfl⟩ := Option.map_eq_some_iff.mp e6
    exact ⟨F, μ4, S4, p2, q2, z2, B4, view_vw B4 ((rg.mono f3.pre f3.gle).mono f4.pre f4.gle) e3, view_vw B4 rk e5, e7, h4⟩
  · rename_i e2
    obtain ⟨p1, e3, e4⟩ := Option.bind_eq_some_iff.mp e2
    obtain ⟨q1, e5, e6⟩ := Option.bind_eq_some_iff.mp e4
    exact ⟨F, μ2, S2, p1, q1, .bl false, B2, view_vw B2 rd2 e3, view_vw B2 rg e5, e6, fun v μ3 H3 B3 f3 r3 => ⟨false, r3, give B3 (Sat.later f3 h2) rfl⟩⟩
  · exact h2.elim
/-! ### arguments, displays -/
theorem a_nil : PA X [] (tA X cl W fun _ S => .ok [] S) := pa_nil.imp fun σ H Q ⟨ρ, S, μ, F, B, r, h⟩ => h [] μ H B Fra.refl rfl
theorem a_cons {e : Expr} {es : List Expr} {f : List (Option D) → Sto → Res D} {g : List (Option D) → Sto → Res (List D)} (hs : noStar e = true) (he : PE X e (tE X cl W f)) (hes : PA X es (tA X cl W g)) :
    PA X (e :: es) (tA X cl W fun ρ S => (f ρ S).bind fun d S => (g ρ S).bind fun ds S => .ok (d :: ds) S) := by
  refine (pa_cons he hes (star_cons hs)).imp fun σ H Q ⟨ρ, S, μ, F, B, r, h⟩ => stepE B r h fun x H1 d S1 μ1 B1 f1 r1 rd h1 => stepA B1 r1 h1 fun xs H2 ds S2 μ2 B2 f2 r2 rds h2 => ?_
  exact h2 _ μ2 H2 B2 Fra.refl ⟨x, xs, rfl, rd.mono f2.pre f2.gle, rds⟩
theorem e_tup {es : List Expr} {x1} {pos : Pos} {g : List (Option D) → Sto → Res (List D)} (ha : PA X es (tA X cl W g)) :
    PE X (.Tuple es x1 pos) (tE X cl W fun ρ S => (g ρ S).bind fun ds S => (frzL S ds).bind fun ps S => if ps.length ≤ sizeLine then .ok (.p (.tup ps)) S else .bad) := by
  refine (pe_tup ha).imp fun σ H Q ⟨ρ, S, μ, F, B, r, h⟩ => stepA B r h fun xs H1 ds S1 μ1 B1 f1 r1 rds h1 => ?_
  obtain ⟨ps, S2, e2, l2, B2, f2, r2, h2⟩ := Sat.frzL B1 rds h1
  split at h2
  · exact ⟨by rw [← r2.len]; assumption, give_tup B2 h2 r2⟩
  · exact h2.elim
theorem give_box {l : List P} {xs : List V} {F μ : List Addr} {S : Sto} {H : Hp} {K : PySem.W.Frag} {W : XK} {Q : VK} (B : Bears K cl F μ H S) (h : Sat K cl F μ S H (RD K cl) (.ok (.box S.length) (S ++ [some (.lst l)])) W Q) (r : RepL K cl (Gz F μ S H) l xs) (p : Addr) (hp : H p = none) : Q (.ref p) (upd H p (.lst xs)) := by
  obtain ⟨B1, f1⟩ := B.boxed (o := .lst l) (H' := upd H p (.lst xs)) (upd_keep hp) hp (by rw [upd_same]; exact fun z => by cases z) (fun z => B.hd p z hp) ⟨xs, upd_same, r⟩
  exact h _ _ _ B1 f1 ⟨p, rfl, by rw [← B.len]; simp⟩
theorem e_lst {bx : Bool} {es : List Expr} {pos : Pos} {g : List (Option D) → Sto → Res (List D)} (ha : PA X es (tA X cl W g)) :
    PE X (.List es pos) (tE X cl W fun ρ S => (g ρ S).bind fun ds S => (frzL S ds).bind fun ps S => if ps.length ≤ sizeLine then boxIf bx (.lst ps) S else .bad) := by
  refine (pe_lst ha).imp fun σ H Q ⟨ρ, S, μ, F, B, r, h⟩ => stepA B r h fun xs H1 ds S1 μ1 B1 f1 r1 rds h1 => ?_
  obtain ⟨ps, S2, e2, l2, B2, f2, r2, h2⟩ := Sat.frzL B1 rds h1
  split at h2
  · refine ⟨by rw [← r2.len]; assumption, ?_⟩
    cases bx with
    | false => exact give_lst B2 h2 r2
    | true => exact give_box B2 h2 r2
  · exact h2.elim
theorem e_dnew {pos : Pos} : PE X (.Dict [] [] pos) (tE X cl W fun _ S => boxIf true (.dk [] []) S) := by
  refine pe_dnewK.imp fun σ H Q ⟨ρ, S, μ, F, B, r, h⟩ p hp => ?_
  obtain ⟨B1, f1⟩ := B.boxed (o := .dk [] []) (H' := upd H p (.dK [])) (upd_keep hp) hp (by rw [upd_same]; exact fun z => by cases z) (fun z => B.hd p z hp) ⟨[], upd_same, rfl, rfl⟩
  exact h _ _ _ B1 f1 ⟨p, rfl, by rw [← B.len]; simp⟩
/-! ### built-ins of one argument -/
theorem e_call1 {o : Op1} {e a : Expr} {f : List (Option D) → Sto → Res D} (hp : ∀ W', PE X e (tCB (RC1 X cl W' o) (tCons (tE X cl W f) tNil))) :
    PE X e (tE X cl W fun ρ S => (f ρ S).bind fun d S => optR ((view S d).bind fun x => (prim1 o x).map .p) S) := by
  refine ⟨fun pins s σ H Q I w => (hp (WS W σ)).run pins s σ H Q I ?_⟩
  obtain ⟨ρ, S, μ, F, B, r, h⟩ := w
  refine stepE B r h fun x H1 d S1 μ1 B1 f1 r1 rd h1 => ?_
  obtain ⟨d2, e2, h2⟩ := Sat.opt h1
  obtain ⟨p, e3, e4⟩ := Option.bind_eq_some_iff.mp e2
  obtain ⟨z, e5, rfl⟩ := Option.map_eq_some_iff.mp e4
  exact ⟨x, rfl, F, μ1, S1, p, z, B1, view_vw B1 rd e3, e5, h2⟩
theorem e_bi {o : Op1} {id : String} {x : Str} {a : Expr} {p pos : Pos} {f : List (Option D) → Sto → Res D} (hc : ∀ W', CallR X (.builtin id) (RC1 X cl W' o)) (hg : Gl X x) (hm : X.mg x = none) (hv : bootBuiltins x = some (.builtin id)) (hn : x ≠ "__name__") (hd : (x == ("__debug__" : Str)) = false)
    (hs : noStar a = true) (ha : PE X a (tE X cl W f)) :
    PE X (.Call (.Name x p) [a] [] pos) (tE X cl W fun ρ S => (f ρ S).bind fun d S => optR ((view S d).bind fun x => (prim1 o x).map .p) S) :=
  e_call1 (a := a) fun W' => pe_callB (hc W') hg hm hv (pa_cons ha pa_nil (star_cons hs)) (he := star_cons hs) (hpl := rfl) (hn := hn) (hdb := hd)
end
end PD
/-! A call: the def sees its own boxes alone. -/
namespace PD
open PySem L2
def resL (k : Nat) : LR → Res D
  | .ok (.p r) os => if os.length = k ∧ os.all O.pure = true then .ok (.p r) (os.map some) else .bad
  | .ok (.o o) os => if os.length = k ∧ os.all O.pure = true ∧ o.pure = true then .ok (.box os.length) (os.map some ++ [some o]) else .bad
  | .rse c xs vs os => if os.length = k ∧ os.all O.pure = true then .rse c xs vs (os.map some) else .bad
  | .bad => .bad
/-- a def's promise, by what it does with its arguments -/
def spL (K : PySem.W.Frag) (cl : Nat → Addr) (Fn : List Arg → LR) : Sp := fun vs H Q E => ∃ F μ as, Bears K cl F μ H (boxesA as) ∧ RepDL K cl μ (Gz F μ (boxesA as) H) (numA 0 as) vs ∧ (boxesA as).all purO = true ∧
  Sat K cl F μ (boxesA as) H (RD K cl) (resL (boxesA as).length (Fn as)) E Q
theorem gz_congr {F μ F' μ' : List Addr} {S S' : Sto} {H : Hp} (h : ∀ a, (Liv μ S a ∨ a ∈ F) ↔ (Liv μ' S' a ∨ a ∈ F')) : Gz F μ S H = Gz F' μ' S' H := by
  funext a
  unfold Gz
  by_cases c : Liv μ S a ∨ a ∈ F
  · rw [if_pos c, if_pos ((h a).mp c)]
  · rw [if_neg c, if_neg (fun z => c ((h a).mpr z))]
theorem so_len {S : Sto} : ∀ {ns : List Nat} {os : List O}, (setOuts S ns os).length = S.length
  | [], _ => rfl
  | _ :: _, [] => rfl
  | n :: ns, o :: os => by
    show ((setOuts S ns os).set n (some o)).length = _
    rw [List.length_set, so_len]
theorem so_out {S : Sto} {m : Nat} : ∀ {ns : List Nat} {os : List O}, m ∉ ns → (setOuts S ns os)[m]? = S[m]?
  | [], _, _ => rfl
  | _ :: _, [], _ => rfl
  | n :: ns, o :: os, h => by
    show ((setOuts S ns os).set n (some o))[m]? = _
    rw [List.getElem?_set_ne (fun e => h (by rw [e]; exact List.mem_cons_self)), so_out (fun z => h (List.mem_cons_of_mem _ z))]
theorem so_in {S : Sto} : ∀ {ns : List Nat} {os : List O} {j n : Nat} {o : O}, ns.Nodup → ns[j]? = some n → os[j]? = some o → n < S.length → (setOuts S ns os)[n]? = some (some o)
  | [], _, _, _, _, _, h, _, _ => by simp at h
  | _ :: _, [], _, _, _, _, _, h, _ => by simp at h
  | m :: ns, x :: os, 0, n, o, nd, h1, h2, hl => by
    simp at h1 h2
    subst h1; subst h2
    show ((setOuts S ns os).set m (some x))[m]? = _
    rw [List.getElem?_set_self (by rw [so_len]; exact hl)]
  | m :: ns, x :: os, j + 1, n, o, nd, h1, h2, hl => by
    have h1' : ns[j]? = some n := by simpa using h1
    have hne : m ≠ n := fun e => by
      have hm := List.mem_of_getElem? h1'
      exact (List.nodup_cons.mp nd).1 (e ▸ hm)
    show ((setOuts S ns os).set m (some x))[n]? = _
    rw [List.getElem?_set_ne hne]
    exact so_in (List.nodup_cons.mp nd).2 h1' (by simpa using h2) hl
section
variable {K : PySem.W.Frag} {cl : Nat → Addr} {F μ : List Addr} {S : Sto} {H : Hp} {W : XK}
/-- what toArgs tells -/
theorem args_ns {S : Sto} : ∀ {ds : List D} {as : List Arg} {ns : List Nat}, toArgs S ds = some (as, ns) → (boxesA as).length = ns.length ∧ ∀ (j n : Nat), ns[j]? = some n → ∃ o, (boxesA as)[j]? = some (some o) ∧ S[n]? = some (some o)
  | [], as, ns, h => by
    cases h
    exact ⟨rfl, fun j n h => by simp at h⟩
  | .p x :: ds, as, ns, h => by
    simp only [toArgs] at h
    obtain ⟨⟨as', ns'⟩, h1, h2⟩ := Option.map_eq_some_iff.mp h
    cases h2
    have q := args_ns h1
    exact q
  | .box n :: ds, as, ns, h => by
    simp only [toArgs] at h
    split at h
    · rename_i o hs
      obtain ⟨⟨as', ns'⟩, h1, h2⟩ := Option.map_eq_some_iff.mp h
      cases h2
      obtain ⟨l, g⟩ := args_ns h1
      refine ⟨by show (some o :: boxesA as').length = (n :: ns').length; rw [List.length_cons, List.length_cons, l], fun j m hj => ?_⟩
      cases j with
      | zero =>
        simp at hj
        subst hj
        exact ⟨o, rfl, hs⟩
      | succ j =>
        have hj' : ns'[j]? = some m := by simpa using hj
        obtain ⟨o', h3, h4⟩ := g j m hj'
        exact ⟨o', by show (some o :: boxesA as')[j + 1]? = _; simpa using h3, h4⟩
    · cases h
theorem args_rep {S : Sto} {G : Hp} {μ μ' : List Addr} : ∀ {ds : List D} {as : List Arg} {ns : List Nat} {vs : List V} (k : Nat), toArgs S ds = some (as, ns) → RepDL K cl μ G ds vs → (∀ (j n : Nat), ns[j]? = some n → μ'[k + j]? = μ[n]?) → RepDL K cl μ' G (numA k as) vs
  | [], as, ns, vs, k, h, r, _ => by
    cases h
    exact r
  | .p x :: ds, as, ns, vs, k, h, r, q => by
    simp only [toArgs] at h
    obtain ⟨⟨as', ns'⟩, h1, h2⟩ := Option.map_eq_some_iff.mp h
    cases h2
    obtain ⟨v, t, e, r1, r2⟩ := r
    exact ⟨v, t, e, r1, args_rep k h1 r2 q⟩
  | .box n :: ds, as, ns, vs, k, h, r, q => by
    simp only [toArgs] at h
    split at h
    · obtain ⟨⟨as', ns'⟩, h1, h2⟩ := Option.map_eq_some_iff.mp h
      cases h2
      obtain ⟨v, t, e, ⟨a, ev, r1⟩, r2⟩ := r
      refine ⟨v, t, e, ⟨a, ev, ?_⟩, args_rep (k + 1) h1 r2 fun j m hj => ?_⟩
      · have := q 0 n (by simp)
        rw [Nat.add_zero] at this
        rw [this, r1]
      · have := q (j + 1) m (by simpa using hj)
        rw [← this]
        congr 1
        omega
    · cases h
theorem repDL_pureO {μ μ' : List Addr} {G : Hp} : ∀ {vs : List D} {xs : List V}, (pureD vs).isSome = true → RepDL K cl μ G vs xs → RepDL K cl μ' G vs xs
  | [], xs, _, r => r
  | .box n :: vs, xs, h, r => by cases h
  | .p x :: vs, xs, h, r => by
    obtain ⟨v, t, e, r1, r2⟩ := r
    have h' : ((pureD vs).map (x :: ·)).isSome = true := h
    rw [Option.isSome_map] at h'
    exact ⟨v, t, e, r1, repDL_pureO h' r2⟩
theorem ObjAt.pure {μ μ' : List Addr} {G : Hp} {a : Addr} {o : O} (h : o.pure = true) (q : ObjAt K cl μ G H a o) : ObjAt K cl μ' G H a o := by
  cases o with
  | lst l => exact q
  | dk ks vs => exact q
  | dt ks vs => exact q
  | ins c ns vs =>
    obtain ⟨dx, ys, e, k, r⟩ := q
    exact ⟨dx, ys, e, k, repDL_pureO h r⟩
theorem purO_get {S : Sto} {j : Nat} {o : O} (h : S.all purO = true) (e : S[j]? = some (some o)) : o.pure = true := by
  rw [List.all_eq_true] at h
  exact h _ (List.mem_of_getElem? e)
theorem pre_len {α : Type} {l m : List α} (p : l <+: m) (h : m.length = l.length) : m = l := by
  obtain ⟨t, rfl⟩ := p
  have : t.length = 0 := by simp at h; exact by simpa using h
  rw [List.length_eq_zero_iff.mp this, List.append_nil]
open Classical in
/-- THE CALL: from the caller's store to the def's own -/
theorem lift {Fn : List Arg → LR} {ds : List D} {vs : List V} {Q : VK} (B : Bears K cl F μ H S) (r : RepDL K cl μ (Gz F μ S H) ds vs) (h : Sat K cl F μ S H (RD K cl) (callA Fn ds S) W Q) : spL K cl Fn vs H Q W := by
  unfold callA at h
  cases ha : toArgs S ds with
  | none => rw [ha] at h; exact h.elim
  | some p =>
    obtain ⟨as, ns⟩ := p
    rw [ha] at h
    simp only at h
    split at h
    case isFalse => exact h.elim
    case isTrue hc =>
      obtain ⟨hnd, hpu⟩ := hc
      obtain ⟨hl, hg⟩ := args_ns ha
      have hns : ∀ n ∈ ns, ∃ o, S[n]? = some (some o) := fun n hn => by
        obtain ⟨j, hj⟩ := List.mem_iff_getElem?.mp hn
        obtain ⟨o, _, h2⟩ := hg j n hj
        exact ⟨o, h2⟩
      have hlt : ∀ n ∈ ns, n < S.length := fun n hn => let ⟨o, e⟩ := hns n hn; (List.getElem?_eq_some_iff.mp e).1
      have hltm : ∀ n ∈ ns, n < μ.length := fun n hn => by rw [B.len]; exact hlt n hn
      -- the def's boxes
      let μ' : List Addr := ns.pmap (fun n hn => μ[n]'(hltm n hn)) (fun n hn => hn)
      have hm' : ∀ (j n : Nat), ns[j]? = some n → μ'[j]? = μ[n]? := fun j n hj => by
        have hn := List.mem_of_getElem? hj
        obtain ⟨h1, h2⟩ := List.getElem?_eq_some_iff.mp hj
        have h1' : j < μ'.length := by rw [List.length_pmap]; exact h1
        rw [List.getElem?_eq_getElem h1', List.getElem?_eq_getElem (hltm n hn)]
        congr 1
        rw [List.getElem_pmap]
        congr 1
      have hml : μ'.length = ns.length := List.length_pmap
      have hmem : ∀ a, a ∈ μ' ↔ ∃ n ∈ ns, μ[n]? = some a := fun a => by
        constructor
        · intro h
          obtain ⟨j, hj⟩ := List.mem_iff_getElem?.mp h
          have hjl : j < ns.length := by rw [← hml]; exact (List.getElem?_eq_some_iff.mp hj).1
          have e := hm' j ns[j] (List.getElem?_eq_getElem hjl)
          exact ⟨ns[j], List.getElem_mem hjl, by rw [← e]; exact hj⟩
        · rintro ⟨n, hn, e⟩
          obtain ⟨j, hj⟩ := List.mem_iff_getElem?.mp hn
          have e2 := hm' j n hj
          exact List.mem_of_getElem? (e2.trans e)
      -- the others are hidden
      let rest : List Addr := μ.filter fun a => decide (Liv μ S a) && decide (a ∉ μ')
      have hrest : ∀ a, a ∈ rest ↔ Liv μ S a ∧ a ∉ μ' := fun a => by
        show a ∈ List.filter _ μ ↔ _
        rw [List.mem_filter]
        simp only [Bool.and_eq_true, decide_eq_true_eq]
        exact ⟨fun z => z.2, fun z => ⟨let ⟨n, o, e, _⟩ := z.1; List.mem_of_getElem? e, z⟩⟩
      have liv' : ∀ (T : Sto), T.length = ns.length → (∀ j, j < T.length → ∃ o, T[j]? = some (some o)) → ∀ a, Liv μ' T a ↔ a ∈ μ' := fun T hT hs a => by
        constructor
        · rintro ⟨n, o, e, _⟩
          exact List.mem_of_getElem? e
        · intro z
          obtain ⟨j, hj⟩ := List.mem_iff_getElem?.mp z
          have hjl : j < T.length := by rw [hT, ← hml]; exact (List.getElem?_eq_some_iff.mp hj).1
          obtain ⟨o, ho⟩ := hs j hjl
          exact ⟨j, o, hj, ho⟩
      have inLiv : ∀ a, a ∈ μ' → Liv μ S a := fun a z => by
        obtain ⟨n, hn, e⟩ := (hmem a).mp z
        obtain ⟨o, ho⟩ := hns n hn
        exact ⟨n, o, e, ho⟩
      have bS : ∀ j, j < (boxesA as).length → ∃ o, (boxesA as)[j]? = some (some o) := fun j hj => by
        have hj2 : j < ns.length := by rw [← hl]; exact hj
        obtain ⟨o, h1, _⟩ := hg j ns[j] (List.getElem?_eq_getElem hj2)
        exact ⟨o, h1⟩
      have hide : ∀ (T : Sto), T.length = ns.length → (∀ j, j < T.length → ∃ o, T[j]? = some (some o)) → ∀ a, (Liv μ S a ∨ a ∈ F) ↔ (Liv μ' T a ∨ a ∈ F ++ rest) := fun T hT hs a => by
        rw [liv' T hT hs, List.mem_append, hrest]
        constructor
        · rintro (z | z)
          · by_cases c : a ∈ μ'
            · exact .inl c
            · exact .inr (.inr ⟨z, c⟩)
          · exact .inr (.inl z)
        · rintro (z | z | z)
          · exact .inl (inLiv a z)
          · exact .inr z
          · exact .inl z.1
      have hG : Gz F μ S H = Gz (F ++ rest) μ' (boxesA as) H := gz_congr (hide _ hl bS)
      have nd' : μ'.Nodup := by
        show List.Pairwise (· ≠ ·) μ'
        rw [List.pairwise_iff_getElem]
        intro i j hi1 hj1 hij e0
        have e : μ'[i]? = μ'[j]? := by rw [List.getElem?_eq_getElem hi1, List.getElem?_eq_getElem hj1, e0]
        have hi2 : i < ns.length := by omega
        have hj2 : j < ns.length := by omega
        have e1 := hm' i ns[i] (List.getElem?_eq_getElem hi2)
        have e2 := hm' j ns[j] (List.getElem?_eq_getElem hj2)
        have lt1 := hltm _ (List.getElem_mem hi2)
        have e3 : ns[i] = ns[j] := nd_eq B.nd (a := μ[ns[i]]) (List.getElem?_eq_getElem lt1) (by rw [← e2, ← e, e1]; exact List.getElem?_eq_getElem lt1)
        have e4 := (List.getElem_inj hnd).mp e3
        omega
      have B' : Bears K cl (F ++ rest) μ' H (boxesA as) := by
        refine ⟨by rw [hml, hl], nd', fun j a o hj ho => ?_, fun j a hj => ?_, fun j a hj => ?_, fun a ha' => ?_⟩
        · have hj2 : j < ns.length := by rw [← hml]; exact (List.getElem?_eq_some_iff.mp hj).1
          obtain ⟨o', h1, h2⟩ := hg j ns[j] (List.getElem?_eq_getElem hj2)
          rw [h1] at ho
          cases ho
          rw [hm' j ns[j] (List.getElem?_eq_getElem hj2)] at hj
          rw [← hG]
          exact ObjAt.pure (purO_get hpu h1) (B.obj _ a o hj h2)
        · obtain ⟨n, _, e⟩ := (hmem a).mp (List.mem_of_getElem? hj)
          exact B.dom n a e
        · obtain ⟨n, _, e⟩ := (hmem a).mp (List.mem_of_getElem? hj)
          rw [List.mem_append, hrest]
          rintro (z | z)
          · exact B.nf n a e z
          · exact z.2 (List.mem_of_getElem? hj)
        · rw [List.mem_append, hrest] at ha'
          rcases ha' with z | ⟨⟨n, o, e, _⟩, _⟩
          · exact B.hd a z
          · exact B.dom n a e
      refine ⟨F ++ rest, μ', as, B', ?_, hpu, ?_⟩
      · rw [← hG]
        exact args_rep 0 ha r fun j n hj => by rw [Nat.zero_add]; exact hm' j n hj
      · -- the way back
        have keepM : ∀ {μ2 : List Addr} {T : Sto} {H' : Hp}, Fra μ' (boxesA as) H μ2 T H' → ∀ a u, ¬ Liv μ S a → H a = some u → H' a = some u := fun f a u h1 h2 =>
          (f.keep a u (fun z => h1 (inLiv a ((liv' _ hl bS a).mp z))) h2).1
        have livO : ∀ (os : List O), os.length = ns.length → ∀ a, Liv μ (setOuts S ns os) a ↔ Liv μ S a := fun os ho a => by
          constructor
          · rintro ⟨m, o, e1, e2⟩
            by_cases c : m ∈ ns
            · obtain ⟨o', ho'⟩ := hns m c
              exact ⟨m, o', e1, ho'⟩
            · rw [so_out c] at e2
              exact ⟨m, o, e1, e2⟩
          · rintro ⟨m, o, e1, e2⟩
            by_cases c : m ∈ ns
            · obtain ⟨j, hj⟩ := List.mem_iff_getElem?.mp c
              have hjo : j < os.length := by rw [ho]; exact (List.getElem?_eq_some_iff.mp hj).1
              exact ⟨m, os[j], e1, so_in hnd hj (List.getElem?_eq_getElem hjo) (hlt m c)⟩
            · exact ⟨m, o, e1, by rw [so_out c]; exact e2⟩
        have back : ∀ (os : List O) (μ2 : List Addr) (T : Sto) (H' : Hp), os.length = ns.length → os.all O.pure = true → (∀ j o, os[j]? = some o → T[j]? = some (some o)) → μ' <+: μ2 → (∀ a, (Liv μ S a ∨ a ∈ F) → (Liv μ2 T a ∨ a ∈ F ++ rest)) →
            Bears K cl (F ++ rest) μ2 H' T → Fra μ' (boxesA as) H μ2 T H' → (∀ a, H a ≠ none → (Liv μ2 T a ∨ a ∈ F ++ rest) → (Liv μ S a ∨ a ∈ F)) →
            Gle (Gz (F ++ rest) μ2 T H') (Gz F μ (setOuts S ns os) H') → Bears K cl F μ H' (setOuts S ns os) ∧ Fra μ S H μ (setOuts S ns os) H' := fun os μ2 T H' ho hop hT hp hh B2 f2 hb hgl => by
          have fr : Fra μ S H μ (setOuts S ns os) H' := ⟨List.prefix_refl _, fun a u h1 h2 => ⟨keepM f2 a u h1 h2, fun z => h1 ((livO os ho a).mp z)⟩, f2.dom⟩
          refine ⟨⟨by rw [so_len]; exact B.len, B.nd, fun m a o hm ho' => ?_, fun m a hm => f2.dom a (B.dom m a hm), B.nf, fun a z => f2.dom a (B.hd a z)⟩, fr⟩
          by_cases c : m ∈ ns
          · obtain ⟨j, hj⟩ := List.mem_iff_getElem?.mp c
            have hjo : j < os.length := by rw [ho]; exact (List.getElem?_eq_some_iff.mp hj).1
            have e2 := so_in (S := S) hnd hj (List.getElem?_eq_getElem hjo) (hlt m c)
            rw [e2] at ho'
            cases ho'
            have hmj : μ2[j]? = some a := pre_get hp (by rw [hm' j m hj]; exact hm)
            have q := B2.obj j a os[j] hmj (hT j _ (List.getElem?_eq_getElem hjo))
            have pu : os[j].pure = true := by
              rw [List.all_eq_true] at hop
              exact hop _ (List.getElem_mem hjo)
            exact ObjAt.pure (μ := μ2) pu (q.mono (List.prefix_refl _) hgl fun _ e => e)
          · rw [so_out c] at ho'
            refine (B.obj m a o hm ho').mono fr.pre fr.gle fun u e => ?_
            have ca : a ∉ μ' := fun z => by
              obtain ⟨n, hn, e⟩ := (hmem a).mp z
              exact c (nd_eq B.nd hm e ▸ hn)
            exact (f2.keep a u (fun z => ca ((liv' _ hl bS a).mp z)) e).1
        cases hF : Fn as with
        | bad => rw [hF] at h; exact h.elim
        | rse c xs ws os =>
          rw [hF] at h
          simp only at h
          simp only [resL]
          split at h
          case isFalse => exact h.elim
          case isTrue hc =>
            rw [if_pos ⟨by rw [hl]; exact hc.1, hc.2⟩]
            intro dd μ2 H' B2 f2 rx
            have e2 : μ2 = μ' := pre_len f2.pre (by rw [B2.len, List.length_map, hc.1, hml])
            subst e2
            have hTs : ∀ j, j < (os.map some).length → ∃ o, (os.map some)[j]? = some (some o) := fun j hj => by
              rw [List.length_map] at hj
              exact ⟨os[j], by simp [hj]⟩
            have hTl : (os.map some).length = ns.length := by rw [List.length_map]; exact hc.1
            have eG : Gz (F ++ rest) μ' (os.map some) H' = Gz F μ (setOuts S ns os) H' := (gz_congr fun a => by rw [livO os hc.1]; exact hide _ hTl hTs a).symm
            obtain ⟨B3, f3⟩ := back os μ' (os.map some) H' hc.1 hc.2 (fun j o e => by rw [List.getElem?_map, e]; rfl) (List.prefix_refl _) (fun a => (hide _ hTl hTs a).mp) B2 f2 (fun a _ => (hide _ hTl hTs a).mpr) (by rw [eG]; exact Gle.refl _)
            exact h dd μ H' B3 f3 (by rw [← eG]; exact rx)
        | ok ra os =>
          rw [hF] at h
          cases ra with
          | p x =>
            simp only at h
            simp only [resL]
            split at h
            case isFalse => exact h.elim
            case isTrue hc =>
              rw [if_pos ⟨by rw [hl]; exact hc.1, hc.2⟩]
              intro v μ2 H' B2 f2 rx
              have e2 : μ2 = μ' := pre_len f2.pre (by rw [B2.len, List.length_map, hc.1, hml])
              subst e2
              have hTs : ∀ j, j < (os.map some).length → ∃ o, (os.map some)[j]? = some (some o) := fun j hj => by
                rw [List.length_map] at hj
                exact ⟨os[j], by simp [hj]⟩
              have hTl : (os.map some).length = ns.length := by rw [List.length_map]; exact hc.1
              have eG : Gz (F ++ rest) μ' (os.map some) H' = Gz F μ (setOuts S ns os) H' := (gz_congr fun a => by rw [livO os hc.1]; exact hide _ hTl hTs a).symm
              obtain ⟨B3, f3⟩ := back os μ' (os.map some) H' hc.1 hc.2 (fun j o e => by rw [List.getElem?_map, e]; rfl) (List.prefix_refl _) (fun a => (hide _ hTl hTs a).mp) B2 f2 (fun a _ => (hide _ hTl hTs a).mpr) (by rw [eG]; exact Gle.refl _)
              refine h v μ H' B3 f3 ?_
              show Rep K cl _ x v
              rw [← eG]
              exact rx
          | o o =>
            simp only at h
            simp only [resL]
            split at h
            case isFalse => exact h.elim
            case isTrue hc =>
              rw [if_pos ⟨by rw [hl]; exact hc.1, hc.2⟩]
              intro v μ2 H' B2 f2 rx
              obtain ⟨x, rfl, hx⟩ := rx
              have hl2 : μ2.length = os.length + 1 := by rw [B2.len]; simp
              obtain ⟨t, ht⟩ := f2.pre
              have htl : t.length = 1 := by
                have := congrArg List.length ht
                rw [List.length_append, hl2, hml, hc.1] at this
                omega
              obtain ⟨y, rfl⟩ := List.length_eq_one_iff.mp htl
              subst ht
              have exy : x = y := by
                rw [List.getElem?_append_right (by rw [hml, hc.1]; exact Nat.le_refl _)] at hx
                simp [hml, hc.1] at hx
                exact hx.symm
              subst exy
              have nx : x ∉ μ' := fun z => by
                have := B2.nd
                rw [List.nodup_append] at this
                exact this.2.2 x z x (by simp) rfl
              have lx : Liv (μ' ++ [x]) (os.map some ++ [some o]) x := ⟨os.length, o, hx, by rw [List.getElem?_append_right (by simp)]; simp⟩
              have Hx : H x = none := by
                cases e : H x with
                | none => rfl
                | some u => exact absurd lx (f2.keep x u (fun z => nx ((liv' _ hl bS x).mp z)) e).2
              have xF : x ∉ F ++ rest := fun z => B'.hd x z Hx
              have hTs : ∀ j, j < (os.map some).length → ∃ o, (os.map some)[j]? = some (some o) := fun j hj => by
                rw [List.length_map] at hj
                exact ⟨os[j], by simp [hj]⟩
              have hTl : (os.map some).length = ns.length := by rw [List.length_map]; exact hc.1
              have l2 : ∀ a, Liv (μ' ++ [x]) (os.map some ++ [some o]) a ↔ a ∈ μ' ∨ a = x := fun a => by
                constructor
                · intro z
                  rcases liv_app (by rw [hml, hTl]) z with z | z
                  · exact .inl ((liv' _ hTl hTs a).mp z)
                  · exact .inr z
                · rintro (z | z)
                  · obtain ⟨j, o', e1, e2⟩ := (liv' _ hTl hTs a).mpr z
                    exact ⟨j, o', by rw [List.getElem?_append_left (List.getElem?_eq_some_iff.mp e1).1]; exact e1, by rw [List.getElem?_append_left (List.getElem?_eq_some_iff.mp e2).1]; exact e2⟩
                  · rw [z]; exact lx
              have hgl : Gle (Gz (F ++ rest) (μ' ++ [x]) (os.map some ++ [some o]) H') (Gz F μ (setOuts S ns os) H') := Gle.of fun a u e => by
                obtain ⟨h1, h2, h3⟩ := gz_some e
                have h4 : ¬ (Liv μ S a ∨ a ∈ F) := fun z => by
                  rcases (hide _ hTl hTs a).mp z with z | z
                  · exact h1 ((l2 a).mpr (.inl ((liv' _ hTl hTs a).mp z)))
                  · exact h2 z
                rw [gz_of (fun z => h4 (.inl ((livO os hc.1 a).mp z))) (fun z => h4 (.inr z))]
                exact h3
              obtain ⟨B3, f3⟩ := back os (μ' ++ [x]) (os.map some ++ [some o]) H' hc.1 hc.2.1 (fun j o' e => by rw [List.getElem?_append_left (by rw [List.length_map]; exact (List.getElem?_eq_some_iff.mp e).1), List.getElem?_map, e]; rfl) (List.prefix_append _ _)
                (fun a z => by
                  rcases (hide _ hTl hTs a).mp z with z | z
                  · exact .inl ((l2 a).mpr (.inl ((liv' _ hTl hTs a).mp z)))
                  · exact .inr z) B2 f2
                (fun a ha' z => by
                  rcases z with z | z
                  · rcases (l2 a).mp z with z | z
                    · exact (hide _ hTl hTs a).mpr (.inl ((liv' _ hTl hTs a).mpr z))
                    · rw [z, Hx] at ha'; exact absurd rfl ha'
                  · exact (hide _ hTl hTs a).mpr (.inr z)) hgl
              have qx := B2.obj os.length x o hx (by rw [List.getElem?_append_right (by simp)]; simp)
              have nxm : x ∉ μ := B.nobox Hx
              have liv3 : ∀ a, Liv (μ ++ [x]) (setOuts S ns os ++ [some o]) a ↔ Liv μ S a ∨ a = x := fun a => by
                constructor
                · intro z
                  rcases liv_app (by rw [so_len]; exact B.len) z with z | z
                  · exact .inl ((livO os hc.1 a).mp z)
                  · exact .inr z
                · rintro (z | z)
                  · obtain ⟨j, o', e1, e2⟩ := (livO os hc.1 a).mpr z
                    exact ⟨j, o', by rw [List.getElem?_append_left (List.getElem?_eq_some_iff.mp e1).1]; exact e1, by rw [List.getElem?_append_left (List.getElem?_eq_some_iff.mp e2).1]; exact e2⟩
                  · rw [z]
                    exact ⟨μ.length, o, by simp, by rw [B.len, ← so_len (ns := ns) (os := os)]; simp⟩
              have eG : Gz (F ++ rest) (μ' ++ [x]) (os.map some ++ [some o]) H' = Gz F (μ ++ [x]) (setOuts S ns os ++ [some o]) H' := gz_congr fun a => by
                rw [l2, liv3]
                have hh := hide _ hTl hTs a
                rw [liv' _ hTl hTs a] at hh
                constructor
                · rintro ((z | z) | z)
                  · rcases hh.mpr (.inl z) with z | z
                    · exact .inl (.inl z)
                    · exact .inr z
                  · exact .inl (.inr z)
                  · rcases hh.mpr (.inr z) with z | z
                    · exact .inl (.inl z)
                    · exact .inr z
                · rintro ((z | z) | z)
                  · rcases hh.mp (.inl z) with z | z
                    · exact .inl (.inl z)
                    · exact .inr z
                  · exact .inl (.inr z)
                  · rcases hh.mp (.inr z) with z | z
                    · exact .inl (.inl z)
                    · exact .inr z
              have gl3 : Gle (Gz F μ S H) (Gz F (μ ++ [x]) (setOuts S ns os ++ [some o]) H') := Gle.of fun a u e => by
                obtain ⟨h1, h2, h3⟩ := gz_some e
                rw [gz_of (fun z => by
                  rcases (liv3 a).mp z with z | z
                  · exact h1 z
                  · rw [z, Hx] at h3; cases h3) h2]
                exact keepM f2 a u h1 h3
              have B4 : Bears K cl F (μ ++ [x]) H' (setOuts S ns os ++ [some o]) := by
                refine ⟨by simp [so_len, B.len], ?_, fun m a o' hm ho' => ?_, fun m a hm => ?_, fun m a hm => ?_, fun a z => f2.dom a (B.hd a z)⟩
                · rw [List.nodup_append]
                  exact ⟨B.nd, by simp, fun z hz y hy => by simp at hy; subst hy; exact fun e => nxm (e ▸ hz)⟩
                · by_cases c : m < μ.length
                  · rw [List.getElem?_append_left c] at hm
                    rw [List.getElem?_append_left (by rw [so_len, ← B.len]; exact c)] at ho'
                    by_cases c2 : m ∈ ns
                    · obtain ⟨j, hj⟩ := List.mem_iff_getElem?.mp c2
                      have hjo : j < os.length := by rw [hc.1]; exact (List.getElem?_eq_some_iff.mp hj).1
                      rw [so_in (S := S) hnd hj (List.getElem?_eq_getElem hjo) (hlt m c2)] at ho'
                      cases ho'
                      have hmj : (μ' ++ [x])[j]? = some a := pre_get (List.prefix_append _ _) (by rw [hm' j m hj]; exact hm)
                      have q := B2.obj j a os[j] hmj (by rw [List.getElem?_append_left (by rw [List.length_map]; exact hjo)]; simp [hjo])
                      have pu : os[j].pure = true := by
                        have := hc.2.1
                        rw [List.all_eq_true] at this
                        exact this _ (List.getElem_mem hjo)
                      rw [← eG]
                      exact ObjAt.pure pu q
                    · rw [so_out c2] at ho'
                      refine (B.obj m a o' hm ho').mono (List.prefix_append _ _) gl3 fun u e => ?_
                      have ca : a ∉ μ' := fun z => by
                        obtain ⟨n, hn, e⟩ := (hmem a).mp z
                        exact c2 (nd_eq B.nd hm e ▸ hn)
                      exact (f2.keep a u (fun z => ca ((liv' _ hl bS a).mp z)) e).1
                  · rw [List.getElem?_append_right (by omega)] at hm
                    rw [List.getElem?_append_right (by rw [so_len, ← B.len]; omega)] at ho'
                    have e1 := (List.getElem?_eq_some_iff.mp hm).2
                    have e2 := (List.getElem?_eq_some_iff.mp ho').2
                    simp at e1 e2
                    subst e1; subst e2
                    rw [← eG]
                    exact ObjAt.pure hc.2.2 qx
                · by_cases c : m < μ.length
                  · rw [List.getElem?_append_left c] at hm
                    exact f2.dom a (B.dom m a hm)
                  · rw [List.getElem?_append_right (by omega)] at hm
                    have e1 := (List.getElem?_eq_some_iff.mp hm).2
                    simp at e1
                    subst e1
                    exact B2.dom _ _ hx
                · by_cases c : m < μ.length
                  · rw [List.getElem?_append_left c] at hm
                    exact B.nf m a hm
                  · rw [List.getElem?_append_right (by omega)] at hm
                    have e1 := (List.getElem?_eq_some_iff.mp hm).2
                    simp at e1
                    subst e1
                    exact fun z => B.hd _ z Hx
              have f4 : Fra μ S H (μ ++ [x]) (setOuts S ns os ++ [some o]) H' := ⟨List.prefix_append _ _, fun a u h1 h2 => ⟨keepM f2 a u h1 h2, fun z => by
                rcases (liv3 a).mp z with z | z
                · exact h1 z
                · rw [z, Hx] at h2; cases h2⟩, f2.dom⟩
              exact h (.ref x) (μ ++ [x]) H' B4 f4 ⟨x, rfl, by rw [← B.len]; simp⟩
end
end PD
/-! Calls of defs, methods, constructors; fields; slices, get; methods of lists. -/
namespace PD
open PySem L2 PySem.Spec PyProof.Rows
theorem meth_eq {o : Expr} {m : Str} {apos pos : Pos} {es : List Expr} {env : Env} (hb : plainBase o = true) (hs : es.all noStar = true) (hn : es.length < 30) (hl : (apos.endLine == pos.line) = true) :
    eval (.Call (.Attribute o m apos) es [] pos) env = (do
      let ov ← eval o env
      standAt apos.atName
      let (f, first) ← holding [ov] (getMethod ov m (do return (← importBound o env).getD true))
      callWith pos f first (backTo pos (starEach es env)) (backToKw pos (keywordEach [] env))) := by
  have hf : methodCallForm (es.length + ([] : List Keyword).length) (backTo pos (starEach es env)) (backToKw pos (keywordEach [] env)) = true := by
    unfold methodCallForm
    rw [star_all hs]
    show (true && true && decide (es.length + 0 + 0 < 30)) = true
    simpa using hn
  show (attributeBase o m env (eval o env) >>= fun ov => standAt apos.atName >>= fun _ => methodCall o m apos pos env ov (es.length + ([] : List Keyword).length) (backTo pos (starEach es env)) (backToKw pos (keywordEach [] env))) = _
  rw [base_plain hb]
  unfold methodCall calleeOf methodCallPos
  rw [hf, hl]
  rfl
section
variable {X : Cx} {cl : Nat → Addr} {W : WX} {k : Nat} {f C : Addr} {fd : FuncData} {ps : List Str} {dvs : List V} {ds' : List Value} {Fn : List Arg → LR} {x m : Str} {p pos apos : Pos} {e o : Expr} {es : List Expr} {dfl : List P} {fz : Bool}
/-- what is handed to a def -/
def give2 (fz : Bool) (Fn : List Arg → LR) (dfl : List P) (ds : List D) (S : Sto) : Res D := if fz then (frzL S ds).bind fun ps S => callA Fn (ps.map .p ++ dfl.map .p) S else callA Fn (ds ++ dfl.map .p) S
theorem give2_ok {F μ : List Addr} {S : Sto} {H : Hp} {K : PySem.W.Frag} {W : XK} {ds : List D} {vs : List V} {Q : VK} (B : Bears K cl F μ H S) (r : RepDL K cl μ (Gz F μ S H) ds vs) (hdr : ∀ G, RepL K cl G dfl dvs)
    (h : Sat K cl F μ S H (RD K cl) (give2 fz Fn dfl ds S) W Q) : spL K cl Fn (vs ++ dvs) H Q W := by
  cases fz with
  | false => exact lift B (r.app (repDL_p (hdr _))) h
  | true =>
    obtain ⟨qs, S2, e2, l2, B2, f2, r2, h2⟩ := Sat.frzL B r h
    exact lift B2 ((repDL_p r2).app (repDL_p (hdr _))) h2
theorem e_call {g : List (Option D) → Sto → Res (List D)} (F : FnOk X.prog X.w X.K X.mg X.base (L2.CX X.prog X.w) k f fd ps (spL X.K cl Fn)) (hr : Room k X.A) (hg : Gl X x) (hm : X.mg x = some (.ref f)) (hk : PySem.W.keepIn X.K (.ref f) = true) (hb : Binds X.K fd ps ds') (hd : Vals dvs ds')
    (hdr : ∀ G, RepL X.K cl G dfl dvs) (tk : Takes X W) (hdb : (x == ("__debug__" : Str)) = false) (hs : (e :: es).all noStar = true) (ha : PA X (e :: es) (tA X cl W g)) :
    PE X (.Call (.Name x p) (e :: es) [] pos) (tE X cl W fun ρ S => (g ρ S).bind fun ds S => give2 fz Fn dfl ds S) := by
  have hs' := hs
  rw [List.all_cons, Bool.and_eq_true] at hs'
  refine (pe_callSD F hr hg hm hk hb hd (fun σ => passAt tk σ) ha hdb (star_cons hs'.1) (star_none hs'.2)).imp fun σ H Q ⟨ρ, S, μ, Fh, B, r, h⟩ => stepA B r h fun xs H1 ds S1 μ1 B1 f1 r1 rds h1 => ?_
  exact give2_ok B1 rds hdr h1
theorem e_call0 (F : FnOk X.prog X.w X.K X.mg X.base (L2.CX X.prog X.w) k f fd ps (spL X.K cl Fn)) (hr : Room k X.A) (hg : Gl X x) (hm : X.mg x = some (.ref f)) (hk : PySem.W.keepIn X.K (.ref f) = true) (hb : Binds X.K fd ps ds') (hd : Vals dvs ds')
    (hdr : ∀ G, RepL X.K cl G dfl dvs) (tk : Takes X W) (hdb : (x == ("__debug__" : Str)) = false) :
    PE X (.Call (.Name x p) [] [] pos) (tE X cl W fun ρ S => (Res.ok ([] : List D) S).bind fun ds S => give2 fz Fn dfl ds S) := by
  refine ⟨fun pins s σ H Q I h => ?_⟩
  refine wpAny_Call_Name_kw (ld_glob I hg hm ?_ hdb)
  obtain ⟨ρ, S, μ, Fh, B, r, h⟩ := h
  exact PySem.W.callWith_K0 I.kIn hk (run_fnSD (us := []) (vs := []) (E := WS W) F hr hb hd (passAt tk σ) I .nil (give2_ok (ds := []) (vs := []) B rfl hdr h))
/-! ### instances -/
theorem look_field {K : PySem.W.Frag} {G : Hp} {f : Str} : ∀ {ys : List (Str × V)} {ns : List Str} {vs : List P}, ys.map (·.1) = ns → RepL K cl G vs (ys.map (·.2)) →
    (∀ q, look ns vs f = some q → ∃ w, ys.lookup f = some w ∧ Rep K cl G q w) ∧ (hasK ns f = false → ys.lookup f = none)
  | [], ns, vs, h, r => by
    cases h
    exact ⟨fun q e => by (cases vs <;> cases e), fun _ => rfl⟩
  | (n, v) :: ys, ns, vs, h, r => by
    cases h
    cases vs with
    | nil => cases (show (v :: _ : List V) = [] from r)
    | cons q0 vs =>
      obtain ⟨v', t, e, r1, r2⟩ := r
      cases e
      have ih := look_field (f := f) (ys := ys) rfl r2
      have e0 : ((n, v) :: ys).map (·.1) = n :: ys.map (·.1) := rfl
      rw [e0]
      by_cases c : n = f
      · subst c
        refine ⟨fun q hq => ⟨v, ?_, ?_⟩, fun hq => ?_⟩
        · simp [List.lookup]
        · simp only [look, if_true] at hq
          cases hq
          exact r1
        · simp [hasK] at hq
      · have e2 : ((n, v) :: ys).lookup f = ys.lookup f := by
          have : (f == n) = false := by simpa using fun z => c z.symm
          simp [List.lookup, this]
        rw [e2]
        refine ⟨fun q hq => ih.1 q ?_, fun hq => ih.2 ?_⟩
        · simpa [look, c] using hq
        · simp only [hasK, List.mem_cons, decide_eq_false_iff_not, not_or] at hq ⊢
          exact hq.2
theorem lookD_field {K : PySem.W.Frag} {μ : List Addr} {G : Hp} {f : Str} : ∀ {ys : List (Str × V)} {ns : List Str} {vs : List D}, ys.map (·.1) = ns → RepDL K cl μ G vs (ys.map (·.2)) →
    (∀ q, (ns.zip vs).lookup f = some q → ∃ w, ys.lookup f = some w ∧ RepD K cl μ G q w) ∧ (hasK ns f = false → ys.lookup f = none) ∧ ((ns.zip vs).lookup f = none → ys.lookup f = none)
  | [], ns, vs, h, r => by
    cases h
    exact ⟨fun q e => by (cases e), fun _ => rfl, fun _ => rfl⟩
  | (n, v) :: ys, ns, vs, h, r => by
    cases h
    cases vs with
    | nil => cases (show (v :: _ : List V) = [] from r)
    | cons q0 vs =>
      obtain ⟨v', t, e, r1, r2⟩ := r
      cases e
      have ih := lookD_field (f := f) (ys := ys) rfl r2
      have e0 : ((n, v) :: ys).map (·.1) = n :: ys.map (·.1) := rfl
      have e1 : (n :: ys.map (·.1)).zip (q0 :: vs) = (n, q0) :: (ys.map (·.1)).zip vs := rfl
      rw [e0, e1]
      by_cases c : n = f
      · subst c
        refine ⟨fun q hq => ⟨v, by simp [List.lookup], ?_⟩, fun hq => ?_, fun hq => ?_⟩
        · simp [List.lookup] at hq
          subst hq
          exact r1
        · simp [hasK] at hq
        · simp [List.lookup] at hq
      · have b : (f == n) = false := by simpa using fun z => c z.symm
        have e2 : ((n, v) :: ys).lookup f = ys.lookup f := by simp [List.lookup, b]
        have e3 : ((n, q0) :: (ys.map (·.1)).zip vs).lookup f = ((ys.map (·.1)).zip vs).lookup f := by simp [List.lookup, b]
        rw [e2, e3]
        refine ⟨ih.1, fun hq => ih.2.1 ?_, ih.2.2⟩
        simp only [hasK, List.mem_cons, decide_eq_false_iff_not, not_or] at hq ⊢
        exact hq.2
/-- where an instance stands -/
theorem ins_at {K : PySem.W.Frag} {F μ : List Addr} {S : Sto} {H : Hp} {d : D} {v : V} {c : Nat} (B : Bears K cl F μ H S) (r : RepD K cl μ (Gz F μ S H) d v) (h : isIns c S d = true) :
    ∃ a dx fs, v = .ref a ∧ H a = some (.ins (cl c) dx fs) ∧ (∀ m, noAttr S m d = true → fs.lookup m = none) ∧ (∀ f q, fieldOf S f d = some q → ∃ w, fs.lookup f = some w ∧ RepD K cl μ (Gz F μ S H) q w) := by
  cases d with
  | p x =>
    cases x <;> first | (cases h; done) | skip
    rename_i c' ns vs
    obtain ⟨a, dx, ys, rfl, ha, hk, hv⟩ := r
    have hc : c = c' := by simpa [isIns] using h
    subst hc
    have q := fun f => look_field (f := f) hk hv
    refine ⟨a, dx, ys, rfl, gz_gle.ex a (.ins _ _ _) trivial ha, fun m hm => (q m).2 (by simpa [noAttr] using hm), fun f z hz => ?_⟩
    simp only [fieldOf] at hz
    obtain ⟨w, e1, e2⟩ := Option.map_eq_some_iff.mp hz
    subst e2
    exact (q f).1 w e1
  | box n =>
    obtain ⟨a, rfl, hn⟩ := r
    simp only [isIns] at h
    split at h
    · rename_i c' ns vs hs
      have hc : c = c' := by simpa using h
      subst hc
      obtain ⟨dx, ys, ha, hk, hv⟩ := B.obj n a _ hn hs
      have q := fun f => lookD_field (f := f) hk hv
      refine ⟨a, dx, ys, rfl, ha, fun m hm => (q m).2.1 (by simpa [noAttr, hs] using hm), fun f z hz => ?_⟩
      simp only [fieldOf, hs] at hz
      exact (q f).1 z hz
    · cases h
theorem e_fld {c : Nat} {at_ : Str} {fe : List (Option D) → Sto → Res D} (hc : Cls X.K (cl c)) (hn : NoAttr X.K (cl c) at_) (hb : plainBase e = true) (he : PE X e (tE X cl W fe)) :
    PE X (.Attribute e at_ pos) (tE X cl W fun ρ S => (fe ρ S).bind fun d S => if isIns c S d then optR (fieldOf S at_ d) S else .bad) := by
  refine (pe_fld he (base_plain hb)).imp fun σ H Q ⟨ρ, S, μ, F, B, r, h⟩ => stepE B r h fun x H1 d S1 μ1 B1 f1 r1 rd h1 => ?_
  split at h1
  · rename_i hi
    obtain ⟨a, dx, fs, rfl, ha, _, hf⟩ := ins_at B1 rd hi
    obtain ⟨q, e1, h2⟩ := Sat.opt h1
    obtain ⟨w, e2, rw'⟩ := hf at_ q e1
    exact ⟨a, cl c, dx, fs, w, rfl, ha, hc, hn, e2, h2 w μ1 H1 B1 Fra.refl rw'⟩
  · exact h1.elim
/-! ### methods -/
def methF (fz : Bool) (Fn : List Arg → LR) (d : D) (ds : List D) (S : Sto) : Res D := if fz then (frzL S (d :: ds)).bind fun ps S => callA Fn (ps.map .p) S else callA Fn (d :: ds) S
theorem meth_give {F μ : List Addr} {S : Sto} {H : Hp} {K : PySem.W.Frag} {W : XK} {d : D} {ds : List D} {v : V} {vs : List V} {Q : VK} (B : Bears K cl F μ H S) (r : RepD K cl μ (Gz F μ S H) d v) (rs : RepDL K cl μ (Gz F μ S H) ds vs)
    (h : Sat K cl F μ S H (RD K cl) (methF fz Fn d ds S) W Q) : spL K cl Fn (v :: vs) H Q W := by
  have rr : RepDL K cl μ (Gz F μ S H) (d :: ds) (v :: vs) := ⟨v, vs, rfl, r, rs⟩
  cases fz with
  | false => exact lift B rr h
  | true =>
    obtain ⟨qs, S2, e2, l2, B2, f2, r2, h2⟩ := Sat.frzL B rr h
    exact lift B2 (repDL_p r2) h2
theorem e_meth {c : Nat} {fo : List (Option D) → Sto → Res D} {g : List (Option D) → Sto → Res (List D)} (hc : Cls X.K (cl c)) (hmt : Meth X.K (cl c) m f) (F : FnOk X.prog X.w X.K X.mg X.base (L2.CX X.prog X.w) k f fd ps (spL X.K cl Fn)) (hr : Room k X.A) (hb : Binds X.K fd ps [])
    (tk : Takes X W) (hpb : plainBase o = true) (hs : (e :: es).all noStar = true) (hn : (e :: es).length < 30) (hl : (apos.endLine == pos.line) = true) (ho : PE X o (tE X cl W fo)) (ha : PA X (e :: es) (tA X cl W g)) :
    PE X (.Call (.Attribute o m apos) (e :: es) [] pos) (tE X cl W fun ρ S => (fo ρ S).bind fun d S => if isIns c S d && noAttr S m d then (g ρ S).bind fun ds S => methF fz Fn d ds S else .bad) := by
  refine ⟨fun pins s σ H Q I ⟨ρ, S, μ, Fh, B, r, h⟩ => ?_⟩
  refine PySem.W.methodCall_KW (thn (ho.run pins s σ H (fun x H1 => ∃ a dx fs, x = .ref a ∧ H1 a = some (.ins (cl c) dx fs) ∧ fs.lookup m = none ∧ tA X cl W g σ H1 fun vs H2 => spL X.K cl Fn (x :: vs) H2 Q (WS W σ)) I ?_) fun u s1 ⟨x, H1, I1, rx, a, dx, fs, ex, ea, l, q⟩ => ?_) (meth_eq hpb hs hn hl)
  · refine stepE B r h fun x H1 d S1 μ1 B1 f1 r1 rd h1 => ?_
    split at h1
    · rename_i hi
      rw [Bool.and_eq_true] at hi
      obtain ⟨a, dx, fs, rfl, ha', hno, _⟩ := ins_at B1 rd hi.1
      refine ⟨a, dx, fs, rfl, ha', hno m hi.2, stepA B1 r1 h1 fun xs H2 ds S2 μ2 B2 f2 r2 rds h2 => ?_⟩
      exact meth_give B2 (rd.mono f2.pre f2.gle) rds h2
    · exact h1.elim
  · subst ex
    obtain rfl : u = Value.ref a := rx
    refine getmeth_ok I1 ea hc hmt l ?_
    rw [List.all_cons, Bool.and_eq_true] at hs
    refine PySem.W.callWith_K (first := [.ref a]) (h₀ := X.base) I1.ok.mod.kin hmt.kp (thn (ha.run pos pins s1 σ H1 _ I1 q) fun us s2 ⟨vs, H2, I2, r, q2⟩ => ⟨I2.kIn, ?_⟩) (star_cons hs.1) (star_none hs.2)
    exact run_fnSD (dvs := []) (ds := []) (us := .ref a :: us) (vs := .ref a :: vs) (E := WS W) F hr hb .nil (passAt tk σ) I2 (.cons rfl r) (by rw [List.append_nil]; exact q2)
theorem e_meth0 {c : Nat} {fo : List (Option D) → Sto → Res D} (hc : Cls X.K (cl c)) (hmt : Meth X.K (cl c) m f) (F : FnOk X.prog X.w X.K X.mg X.base (L2.CX X.prog X.w) k f fd ps (spL X.K cl Fn)) (hr : Room k X.A) (hb : Binds X.K fd ps [])
    (tk : Takes X W) (hpb : plainBase o = true) (hl : (apos.endLine == pos.line) = true) (ho : PE X o (tE X cl W fo)) :
    PE X (.Call (.Attribute o m apos) [] [] pos) (tE X cl W fun ρ S => (fo ρ S).bind fun d S => if isIns c S d && noAttr S m d then (Res.ok ([] : List D) S).bind fun ds S => methF fz Fn d ds S else .bad) := by
  refine ⟨fun pins s σ H Q I ⟨ρ, S, μ, Fh, B, r, h⟩ => ?_⟩
  refine PySem.W.methodCall_KW (thn (ho.run pins s σ H (fun x H1 => ∃ a dx fs, x = .ref a ∧ H1 a = some (.ins (cl c) dx fs) ∧ fs.lookup m = none ∧ spL X.K cl Fn [x] H1 Q (WS W σ)) I ?_) fun u s1 ⟨x, H1, I1, rx, a, dx, fs, ex, ea, l, q⟩ => ?_) (meth_eq hpb rfl (by decide) hl)
  · refine stepE B r h fun x H1 d S1 μ1 B1 f1 r1 rd h1 => ?_
    split at h1
    · rename_i hi
      rw [Bool.and_eq_true] at hi
      obtain ⟨a, dx, fs, rfl, ha', hno, _⟩ := ins_at B1 rd hi.1
      exact ⟨a, dx, fs, rfl, ha', hno m hi.2, meth_give (ds := []) (vs := []) B1 rd rfl h1⟩
    · exact h1.elim
  · subst ex
    obtain rfl : u = Value.ref a := rx
    refine getmeth_ok I1 ea hc hmt l ?_
    exact PySem.W.callWith_K0 (first := [.ref a]) I1.kIn hmt.kp (run_fnSD (dvs := []) (ds := []) (us := [.ref a]) (vs := [.ref a]) (E := WS W) F hr hb .nil (passAt tk σ) I1 (.cons rfl .nil) (by rw [List.append_nil]; exact q))
/-! ### slices, get -/
abbrev RO : List Addr → Hp → Option Int → Option Int → Prop := fun _ _ a b => a = b
def tO (X : Cx) (cl : Nat → Addr) (W : WX) (f : List (Option D) → Sto → Res (Option Int)) : TO := fun σ H Q => ∃ ρ S μ F, Bears X.K cl F μ H S ∧ RepS X.K cl μ (Gz F μ S H) σ ρ ∧ Sat X.K cl F μ S H RO (f ρ S) (WS W σ) Q
theorem part_ok {o : Option Expr} {b : Bool} {fe : List (Option D) → Sto → Res D} (hb : b = o.isSome) (hl : ∀ a, o = some a → PE X a (tE X cl W fe)) (nl : o = none → ∀ ρ S, fe ρ S = .ok (.p .non) S) : PO X o (tO X cl W fun ρ S => (fe ρ S).bind fun e S => optR (partOf b e) S) := by
  cases o with
  | none =>
    refine ⟨fun pins s σ H Q I ⟨ρ, S, μ, F, B, r, h⟩ => po_none.run pins s σ H Q I ?_⟩
    dsimp only at h
    rw [nl rfl, hb] at h
    exact h none μ H B Fra.refl rfl
  | some a =>
    refine ⟨fun pins s σ H Q I ⟨ρ, S, μ, F, B, r, h⟩ => (po_some (hl a rfl)).run pins s σ H Q I (stepE B r h fun x H1 d S1 μ1 B1 f1 r1 rd h1 => ?_)⟩
    rw [hb] at h1
    obtain ⟨q, e, h1⟩ := Sat.opt h1
    cases d with
    | box n => cases e
    | p x =>
      cases x <;> first | (cases e; done) | skip
      cases e
      exact ⟨_, rd, h1 _ μ1 H1 B1 Fra.refl rfl⟩
theorem stepO {F μ : List Addr} {S : Sto} {H : Hp} {σ : L2.St} {ρ : List (Option D)} {α β : Type} {R : List Addr → Hp → α → β → Prop} {Qf : β → Hp → Prop} {f : List (Option D) → Sto → Res (Option Int)} {g : Option Int → Sto → Res α} {Q : Option Int → Hp → Prop} (B : Bears X.K cl F μ H S) (r : RepS X.K cl μ (Gz F μ S H) σ ρ) (h : Sat X.K cl F μ S H R ((f ρ S).bind g) (WS W σ) Qf)
    (k : ∀ b H1 S1 μ1, Bears X.K cl F μ1 H1 S1 → Fra μ S H μ1 S1 H1 → RepS X.K cl μ1 (Gz F μ1 S1 H1) σ ρ → Sat X.K cl F μ1 S1 H1 R (g b S1) (WS W σ) Qf → Q b H1) : tO X cl W f σ H Q :=
  ⟨ρ, S, μ, F, B, r, Sat.mono (Sat.bind (R' := RO) h) fun x H1 ⟨d, S1, μ1, B1, f1, r1, h1⟩ => by
    obtain rfl : d = x := r1
    exact k d H1 S1 μ1 B1 f1 (r.mono f1.pre f1.gle) h1⟩
theorem e_slice {lo hi : Option Expr} {p2 : Pos} {fo : List (Option D) → Sto → Res D} {fl fh : List (Option D) → Sto → Res (Option Int)} (ho : PE X o (tE X cl W fo)) (hl : PO X lo (tO X cl W fl)) (hh : PO X hi (tO X cl W fh)) :
    PE X (.Subscript o (.Slice lo hi none p2) pos) (tE X cl W fun ρ S => (fo ρ S).bind fun d S => (fl ρ S).bind fun l S => (fh ρ S).bind fun h S => optR ((view S d).bind fun x => (sliceP x l h).map .p) S) := by
  refine ⟨fun pins s σ H Q I w => (pe_slice (slice_ok (cl := cl) (W := WS W σ)) ho hl hh).run pins s σ H Q I ?_⟩
  obtain ⟨ρ, S, μ, F, B, r, h⟩ := w
  refine stepE B r h fun x H1 d S1 μ1 B1 f1 r1 rd h1 => stepO B1 r1 h1 fun l H2 S2 μ2 B2 f2 r2 h2 => stepO B2 r2 h2 fun u H3 S3 μ3 B3 f3 r3 h3 => ?_
  obtain ⟨d2, e2, h3⟩ := Sat.opt h3
  obtain ⟨p1, e3, e4⟩ := Option.bind_eq_some_iff.mp e2
  obtain ⟨z, e9, rfl⟩ := Option.map_eq_some_iff.mp e4
  exact ⟨F, μ3, S3, p1, z, B3, view_vw B3 ((rd.mono f2.pre f2.gle).mono f3.pre f3.gle) e3, e9, h3⟩
theorem isD_of {K : PySem.W.Frag} {G H : Hp} {p : P} {v : V} (h : Vw K cl G H p v) (e : isDict p = true) : ∃ a, v = .ref a ∧ IsD H a := by
  cases p <;> first | (cases e; done) | skip
  · obtain ⟨a, kvs, rfl, ha, _⟩ := h
    exact ⟨a, rfl, .inl ⟨kvs, ha⟩⟩
  · obtain ⟨a, kvs, rfl, ha, _⟩ := h
    exact ⟨a, rfl, .inr ⟨kvs, ha⟩⟩
theorem e_get {a b : Expr} {fa fb fc : List (Option D) → Sto → Res D} (hu : X.A.units + 66 < cLine) (hpb : plainBase o = true) (hs1 : noStar a = true) (hs2 : noStar b = true) (hl : (apos.endLine == pos.line) = true)
    (ho : PE X o (tE X cl W fa)) (ha : PE X a (tE X cl W fb)) (hb : PE X b (tE X cl W fc)) :
    PE X (.Call (.Attribute o "get" apos) [a, b] [] pos) (tE X cl W fun ρ S => (fa ρ S).bind fun d S => if ((view S d).map isDict) = some true then (fb ρ S).bind fun e S => (fc ρ S).bind fun g S =>
      match g with
      | .p z => optR ((view S d).bind fun x => (view S e).bind fun y => (getP x y z).map .p) S
      | .box _ => .bad
      else .bad) := by
  have hm : M2 X o "get" apos a b pos := by
    have hs : ([a, b] : List Expr).all noStar = true := by simp [hs1, hs2]
    refine ⟨base_plain hpb, ?_, hl, ?_⟩
    · rw [star_all hs]
      rfl
    · rw [star_cons hs1, star_cons hs2]
      rfl
  refine (pe_dget2 (by omega) ho ha hb hm).imp fun σ H Q ⟨ρ, S, μ, F, B, r, h⟩ => stepE B r h fun x H1 d S1 μ1 B1 f1 r1 rd h1 => ?_
  split at h1
  · rename_i hd
    obtain ⟨p0, e0, e1⟩ := Option.map_eq_some_iff.mp hd
    obtain ⟨ad, rfl, isd⟩ := isD_of (view_vw B1 rd e0) e1
    refine ⟨ad, rfl, isd, stepE B1 r1 h1 fun y H2 e S2 μ2 B2 f2 r2 re h2 => stepE B2 r2 h2 fun z H3 g S3 μ3 B3 f3 r3 rg h3 => ?_⟩
    cases g with
    | box n => exact h3.elim
    | p zz =>
      obtain ⟨d2, e2, h3⟩ := Sat.opt h3
      obtain ⟨p1, e3, e4⟩ := Option.bind_eq_some_iff.mp e2
      obtain ⟨q1, e5, e6⟩ := Option.bind_eq_some_iff.mp e4
      obtain ⟨w, e7, rfl⟩ := Option.map_eq_some_iff.mp e6
      have v1 := view_vw B3 ((rd.mono f2.pre f2.gle).mono f3.pre f3.gle) e3
      have v2 := view_vw B3 (re.mono f3.pre f3.gle) e5
      cases p1 <;> first | (cases e7; done) | skip
      · obtain ⟨kk, hk, e8⟩ := Option.map_eq_some_iff.mp e7
        obtain ⟨a2, kvs, e10, hkv, ek, rv⟩ := v1
        cases e10
        have hx := key_of hk v2
        subst hx
        have lv := look_val (x := kk) ek rv
        refine ⟨valV kvs kk, .inl ⟨kvs, kk, hkv, rfl, rfl⟩, ?_⟩
        cases hl2 : look _ _ kk with
        | none =>
          rw [hl2] at e8
          rw [lv.2 hl2]
          cases e8
          exact give B3 h3 rg
        | some t =>
          rw [hl2] at e8
          obtain ⟨w2, hw2, rw2⟩ := lv.1 t hl2
          rw [hw2]
          cases e8
          exact give B3 h3 rw2
      · obtain ⟨kk, hk, e8⟩ := Option.map_eq_some_iff.mp e7
        obtain ⟨a2, kvs, e10, hkv, ek, rv⟩ := v1
        cases e10
        cases q1 <;> first | (cases hk; done) | skip
        obtain ⟨c2, ys, rfl, hc2, rc2⟩ := v2
        have ec := keys_of hk rc2
        subst ec
        have lv := look_val (x := kk) ek rv
        refine ⟨valV kvs kk, .inr ⟨kvs, kk, c2, hkv, rfl, gz_gle.ex c2 (.tup _) trivial hc2, rfl⟩, ?_⟩
        cases hl2 : look _ _ kk with
        | none =>
          rw [hl2] at e8
          rw [lv.2 hl2]
          cases e8
          exact give B3 h3 rg
        | some t =>
          rw [hl2] at e8
          obtain ⟨w2, hw2, rw2⟩ := lv.1 t hl2
          rw [hw2]
          cases e8
          exact give B3 h3 rw2
  · exact h1.elim
end
end PD
/-! Own operators of instances: + * == != in len; constructors. -/
namespace PD
open PySem L2 PySem.Spec PyProof.Rows
section
variable {X : Cx} {cl : Nat → Addr} {W : WX} {k : Nat} {f C : Addr} {fd : FuncData} {ps : List Str} {dvs : List V} {ds' : List Value} {Fn : List Arg → LR} {x m : Str} {p pos apos : Pos} {e o a b : Expr} {es : List Expr} {dfl : List P} {fz : Bool}
  {fa fb : List (Option D) → Sto → Res D}
/-- a def called at A', all arguments given -/
theorem run_at {A' : Around} {sp : Sp} {pins : List (Addr × Obj)} {σ : L2.St} {H : Hp} {s : Shared} {Q : VK} {us : List Value} {vs : List V} (F : FnOk X.prog X.w X.K X.mg X.base (L2.CX X.prog X.w) k f fd ps sp) (hr : Room k A') (e0 : Env0 X.prog X.w X.K X.mg X.base A' X.stack s H) (hb : Binds X.K fd ps []) (tk : Takes X W)
    (I : Inv X pins σ H s) (r : Vals vs us) (h : sp vs H Q (WS W σ)) : wpAny (model X.prog X.w) A' (call (.ref f) us) (EP X pins σ Q) X.xe s := by
  have hl : us.length = ps.length := by rw [← r.length]; exact F.len _ _ _ _ h
  have hb2 := hb s us I.kIn (by rw [List.append_nil]; exact hl)
  rw [List.append_nil] at hb2
  refine wpAny_call (codeAny_mono (F.run A' X.stack s H ⟨us, []⟩ us vs Q (WS W σ) hr e0 hb2 r h) fun r s' hq => ?_)
  cases r with
  | error e => exact passAt tk σ pins H s e s' I hq
  | ok fl =>
    cases fl with
    | ret u => exact I.after hq
    | next => exact False.elim hq
    | brk => exact False.elim hq
    | cont => exact False.elim hq
theorem inst_at {pins : List (Addr × Obj)} {σ : L2.St} {H : Hp} {s : Shared} {a C dx : Addr} {fs : List (Str × V)} (I : Inv X pins σ H s) (e : H a = some (.ins C dx fs)) : ∃ ox od, PySem.W.InstAt s.heap a ox C od := by
  obtain ⟨mA, O, _⟩ := ins_get I.hok e
  obtain ⟨od, IA, _⟩ := O.look
  exact ⟨_, _, IA⟩
theorem cmpback {pins : List (Addr × Obj)} {σ : L2.St} {Q : VK} {v : Value} {s' : Shared} (h : EP X pins σ Q v s') : PySem.W.CmpBack (EP X pins σ Q) v s' := by
  cases v <;> first | exact h | skip
  obtain ⟨x, H, _, r, _⟩ := h
  cases x <;> first | (cases r; done) | (obtain ⟨_, h⟩ := r; cases h)
/-- two instances, then the def of both -/
def tTwo (K : PySem.W.Frag) (cl : Nat → Addr) (c : Nat) (Fn : List Arg → LR) (Q : VK) (E : XK) : V → V → Hp → Prop := fun x y H => ∃ ax dx fx ay dy fy, x = .ref ax ∧ H ax = some (.ins (cl c) dx fx) ∧ y = .ref ay ∧ H ay = some (.ins (cl c) dy fy) ∧ spL K cl Fn [x, y] H Q E
theorem two_ins {c : Nat} {σ : L2.St} {H : Hp} {ρ : List (Option D)} {S : Sto} {μ Fh : List Addr} {Q : VK} {g : D → Sto → Res D} {Q' : VK} (B : Bears X.K cl Fh μ H S) (r : RepS X.K cl μ (Gz Fh μ S H) σ ρ)
    (h : Sat X.K cl Fh μ S H (RD X.K cl) ((fa ρ S).bind fun d S => (fb ρ S).bind fun e S => if isIns c S d && isIns c S e then (callA Fn [d, e] S).bind g else .bad) (WS W σ) Q)
    (k : ∀ d S1 μ1 H1 v, Bears X.K cl Fh μ1 H1 S1 → RepD X.K cl μ1 (Gz Fh μ1 S1 H1) d v → Sat X.K cl Fh μ1 S1 H1 (RD X.K cl) (g d S1) (WS W σ) Q → Q' v H1) :
    tE X cl W fa σ H fun x H1 => tE X cl W fb σ H1 fun y H2 => tTwo X.K cl c Fn Q' (WS W σ) x y H2 := by
  refine stepE B r h fun x H1 d S1 μ1 B1 f1 r1 rd h1 => stepE B1 r1 h1 fun y H2 e S2 μ2 B2 f2 r2 re h2 => ?_
  split at h2
  · rename_i hi
    rw [Bool.and_eq_true] at hi
    have rd2 := rd.mono f2.pre f2.gle (cl := cl)
    obtain ⟨ax, dx, fx, rfl, hax, _⟩ := ins_at B2 rd2 hi.1
    obtain ⟨ay, dy, fy, rfl, hay, _⟩ := ins_at B2 re hi.2
    refine ⟨ax, dx, fx, ay, dy, fy, rfl, hax, rfl, hay, lift (ds := [d, e]) B2 ⟨_, _, rfl, rd2, _, _, rfl, re, rfl⟩ (Sat.mono (Sat.bind h2) fun v H3 ⟨d3, S3, μ3, B3, f3, r3, h3⟩ => ?_)⟩
    exact k d3 S3 μ3 H3 v B3 r3 h3
  · exact h2.elim
theorem bind_ok {α : Type} (r : Res α) : (r.bind fun a S => .ok a S) = r := by cases r <;> rfl
theorem e_own2 {op : Operator} {c : Nat} (hc : PySem.W.selfFirst X.K (cl c) = true) (hs : PySem.W.findIn X.K (.ref (cl c)) (PySem.dunder op.info.2) = some (some (.ref f))) (hf : PySem.W.isFn X.K (.ref f) = true)
    (F : FnOk X.prog X.w X.K X.mg X.base (L2.CX X.prog X.w) k f fd ps (spL X.K cl Fn)) (hr : Room k X.A) (hb : Binds X.K fd ps []) (tk : Takes X W) (ha : PE X a (tE X cl W fa)) (hb' : PE X b (tE X cl W fb)) :
    PE X (.BinOp a op b pos) (tE X cl W fun ρ S => (fa ρ S).bind fun d S => (fb ρ S).bind fun e S => if isIns c S d && isIns c S e then callA Fn [d, e] S else .bad) := by
  refine ⟨fun pins s σ H Q I ⟨ρ, S, μ, Fh, B, r, h⟩ => wpAny_BinOp (binT ha hb' I (R := tTwo X.K cl c Fn Q (WS W σ)) (two_ins (g := fun d S => .ok d S) B r (by simpa only [bind_ok] using h) fun d S1 μ1 H1 v B1 r1 h1 => h1 v μ1 H1 B1 Fra.refl r1) fun v u s2 x y H2 I2 rx ry q => ?_)⟩
  obtain ⟨ax, dx, fx, ay, dy, fy, rfl, hax, rfl, hay, q⟩ := q
  obtain rfl : v = Value.ref ax := rx
  obtain rfl : u = Value.ref ay := ry
  obtain ⟨m, Fr⟩ := I2.fr
  obtain ⟨_, _, IA⟩ := inst_at I2 hax
  obtain ⟨_, _, IB⟩ := inst_at I2 hay
  exact PySem.W.binop_K Fr I2.ok.mod.kin IA IB.type hc hs hf (thn (run_at (vs := [.ref ax, .ref ay]) F hr I2.env0 hb tk I2 (.cons rfl (.cons rfl .nil)) q) fun v s' hv => cmpback hv)
theorem c_eqI {c : Nat} (hu : X.A.units + 66 < cLine) (hs : PySem.W.findIn X.K (.ref (cl c)) (cmpInfo .Eq).2.1 = some (some (.ref f))) (hf : PySem.W.isFn X.K (.ref f) = true)
    (F : FnOk X.prog X.w X.K X.mg X.base (L2.CX X.prog X.w) k f fd ps (spL X.K cl Fn)) (hr : Room k X.A) (hb : Binds X.K fd ps []) (tk : Takes X W) (ha : PE X a (tE X cl W fa)) (hb' : PE X b (tE X cl W fb)) :
    PC X .Eq a b (tE X cl W fun ρ S => (fa ρ S).bind fun d S => (fb ρ S).bind fun e S => if isIns c S d && isIns c S e then callA Fn [d, e] S else .bad) := by
  refine ⟨fun pins s σ H Q I ⟨ρ, S, μ, Fh, B, r, h⟩ => binT ha hb' I (R := tTwo X.K cl c Fn Q (WS W σ)) (two_ins (g := fun d S => .ok d S) B r (by simpa only [bind_ok] using h) fun d S1 μ1 H1 v B1 r1 h1 => h1 v μ1 H1 B1 Fra.refl r1) fun v u s2 x y H2 I2 rx ry q => ?_⟩
  obtain ⟨ax, dx, fx, ay, dy, fy, rfl, hax, rfl, hay, q⟩ := q
  obtain rfl : v = Value.ref ax := rx
  obtain rfl : u = Value.ref ay := ry
  obtain ⟨m, Fr⟩ := I2.fr
  obtain ⟨_, _, IA⟩ := inst_at I2 hax
  obtain ⟨_, _, IB⟩ := inst_at I2 hay
  unfold compareOp
  exact PySem.W.cmp_K (by omega) Fr I2.ok.mod.kin IA IB.type (by unfold PySem.W.notFirst; simp) hs hf (thn (run_at (vs := [.ref ax, .ref ay]) F hr I2.env0 hb tk I2 (.cons rfl (.cons rfl .nil)) q) fun v s' hv => cmpback hv)
/-- x in o, o an instance -/
theorem c_isin {c : Nat} (hs : PySem.W.findIn X.K (.ref (cl c)) "__contains__" = some (some (.ref f))) (hf : PySem.W.isFn X.K (.ref f) = true)
    (F : FnOk X.prog X.w X.K X.mg X.base (L2.CX X.prog X.w) k f fd ps (spL X.K cl Fn)) (hr : Room k X.A) (hb : Binds X.K fd ps []) (tk : Takes X W) (ha : PE X a (tE X cl W fa)) (hb' : PE X b (tE X cl W fb)) :
    PC X .In a b (tE X cl W fun ρ S => (fa ρ S).bind fun d S => (fb ρ S).bind fun e S => if isIns c S e then (callA Fn [e, d] S).bind fun r S => match r with
        | .p (.bl b) => .ok (.p (.bl b)) S
        | _ => .bad
      else .bad) := by
  refine ⟨fun pins s σ H Q I ⟨ρ, S, μ, Fh, B, r, h⟩ => binT ha hb' I (R := fun x y H => ∃ ay dy fy, y = .ref ay ∧ H ay = some (.ins (cl c) dy fy) ∧ spL X.K cl Fn [y, x] H (fun v H => ∃ b, v = .bl b ∧ Q (.bl b) H) (WS W σ)) ?_ fun v u s2 x y H2 I2 rx ry q => ?_⟩
  · refine stepE B r h fun x H1 d S1 μ1 B1 f1 r1 rd h1 => stepE B1 r1 h1 fun y H2 e S2 μ2 B2 f2 r2 re h2 => ?_
    split at h2
    · rename_i hi
      have rd2 := rd.mono f2.pre f2.gle (cl := cl)
      obtain ⟨ay, dy, fy, rfl, hay, _⟩ := ins_at B2 re hi
      refine ⟨ay, dy, fy, rfl, hay, lift (ds := [e, d]) B2 ⟨_, _, rfl, re, _, _, rfl, rd2, rfl⟩ (Sat.mono (Sat.bind h2) fun v H3 ⟨d3, S3, μ3, B3, f3, r3, h3⟩ => ?_)⟩
      split at h3
      · obtain rfl := rep_bl r3
        exact ⟨_, rfl, give B3 h3 rfl⟩
      · exact h3.elim
    · exact h2.elim
  · obtain ⟨ay, dy, fy, rfl, hay, q⟩ := q
    obtain rfl : u = Value.ref ay := ry
    obtain ⟨m, Fr⟩ := I2.fr
    obtain ⟨_, _, IB⟩ := inst_at I2 hay
    refine PySem.W.in_K Fr I2.ok.mod.kin IB hs hf (thn (run_at (vs := [.ref ay, x]) F hr I2.env0 hb tk I2 (.cons rfl (.cons rx .nil)) q) fun w s' hv => ?_)
    obtain ⟨z, H3, I3, rz, b, e, q3⟩ := hv
    subst e
    cases rz
    exact wpAny_truthy_bool ⟨.bl b, H3, I3, rfl, q3⟩
/-- len(o), o an instance -/
theorem e_own1 {c : Nat} (hs : PySem.W.findIn X.K (.ref (cl c)) "__len__" = some (some (.ref f))) (hf : PySem.W.isFn X.K (.ref f) = true)
    (F : FnOk X.prog X.w X.K X.mg X.base (L2.CX X.prog X.w) k f fd ps (spL X.K cl Fn)) (hr : Room (k + 1) X.A) (hb : Binds X.K fd ps []) (tk : Takes X W) (hg : Gl X x) (hm : X.mg x = none) (hv : bootBuiltins x = some (.builtin "len")) (hn : x ≠ "__name__") (hd : (x == ("__debug__" : Str)) = false)
    (hst : noStar a = true) (ha : PE X a (tE X cl W fa)) :
    PE X (.Call (.Name x p) [a] [] pos) (tE X cl W fun ρ S => (fa ρ S).bind fun d S => if isIns c S d then (callA Fn [d] S).bind fun r S => match r with
        | .p (.int n) => if 0 ≤ n ∧ n < 2 ^ 63 then .ok (.p (.int n)) S else .bad
        | _ => .bad
      else .bad) := by
  refine ⟨fun pins s σ H Q I ⟨ρ, S, μ, Fh, B, r, h⟩ => wpAny_Call_Name_kw (ld_blt I hg hm hv ?_ hn hd)⟩
  refine PyProof.Rows.callWith_builtin1 (thn ((pa_cons ha pa_nil (star_cons hst)).run pos pins s σ H (fun xs H => ∃ ay dy fy, xs = [.ref ay] ∧ H ay = some (.ins (cl c) dy fy) ∧ spL X.K cl Fn [.ref ay] H (fun v H => ∃ n : Int, v = .int n ∧ (0 ≤ n ∧ n < 2 ^ 63) ∧ Q (.int n) H) (WS W σ)) I ?_) fun us s1 ⟨vs, H1, I1, r1, ay, dy, fy, e1, hay, q⟩ => ?_) (star_cons hst) rfl
  · refine stepE B r h fun x H1 d S1 μ1 B1 f1 r1 rd h1 => ?_
    split at h1
    · rename_i hi
      obtain ⟨ay, dy, fy, rfl, hay, _⟩ := ins_at B1 rd hi
      refine ⟨ay, dy, fy, rfl, hay, lift (ds := [d]) B1 ⟨_, _, rfl, rd, rfl⟩ (Sat.mono (Sat.bind h1) fun v H3 ⟨d3, S3, μ3, B3, f3, r3, h3⟩ => ?_)⟩
      split at h3
      · split at h3
        · rename_i hh
          exact ⟨_, r3, hh, give B3 h3 rfl⟩
        · exact h3.elim
      · exact h3.elim
    · exact h1.elim
  · subst e1
    obtain ⟨u, rfl, ru⟩ := vals1 r1
    obtain rfl : u = Value.ref ay := ru
    obtain ⟨m, Fr⟩ := I1.fr
    obtain ⟨_, _, IB⟩ := inst_at I1 hay
    refine PySem.W.len_K Fr I1.ok.mod.kin IB hs hf (thn (run_at (vs := [.ref ay]) F hr.in1 I1.env0.in1 hb tk I1 (.cons rfl .nil) q) fun w s' hv => ?_)
    obtain ⟨z, H3, I3, rz, n, e, hh, q3⟩ := hv
    subst e
    obtain ⟨t, rfl⟩ := rz
    exact ⟨hh, .int n, H3, I3.tok _, ⟨_, rfl⟩, q3⟩
/-! ### != by object's -/
theorem ne_bind (self : Value) : bindSpecial (.builtin "object.__ne__") self = pure (.builtin "object.__ne__", [self]) :=
  (Slot.of (T := "object") (name := "__ne__") (owner := "object") (n := "__ne__") (by rw [typeLookup_type, builtinLookup_eq_fast]; kernel_rfl) (by decide +kernel) (by decide +kernel) (by decide +kernel)
    (.inl (by decide +kernel)) (by rw [isSubtype_type]; kernel_rfl)).bind self
theorem ne_plain : plainId "object.__ne__" = true := by decide +kernel
theorem ifBound_B {M : Model} {A : Around} {E : Value → Shared → Prop} {s : Shared} {K : PySem.W.Frag} {x C : Addr} {ox : Obj} {od : Option Obj} {id : String} {name : Str} {args : List Value} {Q : Option Value → Shared → Prop} (X : K.In s.heap) (I : PySem.W.InstAt s.heap x ox C od)
    (hs : PySem.W.findIn K (.ref C) name = some (some (.builtin id))) (hb : ∀ self, bindSpecial (.builtin id) self = pure (.builtin id, [self]))
    (h : wpAny M A (call (.builtin id) (.ref x :: args)) (fun v => Q (some v)) E s) : wpAny M A (callSpecialIfBound? (.ref x) name args) Q E s := by
  simp only [callSpecialIfBound?, bindSpecialIfBound?]
  refine wpAny_holding (wpAny_bind (wpAny_bind (wpAny_bind (I.type.here ((PySem.W.looks_findIn X hs).here ?_)))))
  refine wpAny_bind (wpAny_askSetting (wpAny_ite ?_))
  have fin : wpAny M A (call (.builtin id) ([.ref x] ++ args) >>= fun v => pure (some v)) Q E s := wpAny_bind (wpAny_mono h (fun v s' h' => wpAny_pure h') fun _ _ h' => h')
  split
  · exact wpAny_bind ((PySem.W.Looks.of_pure (hb _)).here (wpAny_pure (by exact fin)))
  · exact wpAny_tryCatch (wpAny_bind ((PySem.W.Looks.of_pure (hb _)).here (wpAny_pure (by exact fin))))
theorem objNe_K {prog : Program} {w : World} {A : Around} {E : Value → Shared → Prop} {s : Shared} {K : PySem.W.Frag} {x y C f : Addr} {ox : Obj} {od : Option Obj} {Q : Fin → Shared → Prop} (hu : A.units < cLine) (X : K.In s.heap) (I : PySem.W.InstAt s.heap x ox C od)
    (hs : PySem.W.findIn K (.ref C) "__eq__" = some (some (.ref f))) (hf : PySem.W.isFn K (.ref f) = true)
    (hcall : wpAny (model prog w) A (call (.ref f) [.ref x, .ref y]) (fun v s' => ∃ b, v = .bool b ∧ Q (.done (.ret (.bool (!b)))) s') E s) :
    wpAny (model prog w) A (Builtin.«object.__ne__» ⟨[.ref x, .ref y], []⟩) Q E s := by
  unfold Builtin.«object.__ne__»
  repeat (first
    | with_reducible refine wpAny_cRoomFor hu ?_
    | (refine wpAny_bind (m := callSpecialIfBound? (.ref x) (Str.ofString "__eq__") [.ref y])
        (PySem.W.ifBound_K X I hs hf (wpAny_mono hcall (fun r s' hr => by
          obtain ⟨b, rfl, hq⟩ := hr
          repeat (first | exact hq | exact wpAny_pure hq | exact wpAny_truthy_bool hq | (refine wpAny_bind (m := truthy (.bool _)) (wpAny_truthy_bool ?_)) | wp_step)) fun _ _ e => e)))
    | wp_step)
theorem ne_K {prog : Program} {w : World} {A : Around} {E : Value → Shared → Prop} {s : Shared} {K : PySem.W.Frag} {x y C f L : Addr} {h₀ : Heap} {m : Str → Option Value} {ox oy : Obj} {od od' : Option Obj} {Q : Value → Shared → Prop} (hu : A.units + 1 < cLine) (F : Fr h₀ L s.heap m) (X₀ : K.In h₀) (I : PySem.W.InstAt s.heap x ox C od) (I' : PySem.W.InstAt s.heap y oy C od')
    (hn : PySem.W.findIn K (.ref C) "__ne__" = some (some (.builtin "object.__ne__"))) (hs : PySem.W.findIn K (.ref C) "__eq__" = some (some (.ref f))) (hf : PySem.W.isFn K (.ref f) = true) (ho : PySem.W.mroIn K C (.type "object") = some true)
    (hcall : wpAny (model prog w) A.in1 (call (.ref f) [.ref x, .ref y]) (fun v s' => ∃ b, v = .bool b ∧ Q (.bool (!b)) s') E s) :
    wpAny (model prog w) A (richCompare .NotEq (.ref x) (.ref y)) Q E s := by
  have X := X₀.keeps F.keep
  have t2 : PySem.W.Looks (model prog w) s.heap (isInstance (.ref x) (.type "object")) true := I.type.andThen (PySem.W.looks_mroIn X ho)
  have inner : wpAny (model prog w) A (call (.builtin "object.__ne__") [.ref x, .ref y]) (fun v s' => ∃ b, v = .bool b ∧ Q v s') E s := by
    refine wpAny_call (codeAny_call_builtin ne_plain PySem.F.cmpEntry_ne (PySem.W.check_slot PySem.F.cmpKind_ne PySem.F.cmpSplit_ne t2 (PySem.F.cmpArgs_ne _ _) (objNe_K (A := A.in1) hu X I hs hf (wpAny_mono hcall (fun v s' hv => ?_) fun _ _ e => e))))
    obtain ⟨b, rfl, hq⟩ := hv
    exact ⟨b, rfl, _, rfl, hq⟩
  unfold richCompare
  simp only [oneThing_ref]
  refine wpAny_holding (wpAny_bind (wpAny_cRoomFor (Nat.lt_of_succ_lt hu) ?_))
  refine wpAny_bind (I.type.here (wpAny_bind (I'.type.here ?_)))
  rw [if_neg (by simp)]
  refine wpAny_bind (wpAny_pure ?_)
  simp only [Bool.false_eq_true, if_false]
  refine wpAny_bind (m := tryCompare (.ref x) "__ne__" (.ref y)) ?_
  simp only [tryCompare]
  refine wpAny_bind (ifBound_B X I hn ne_bind (wpAny_mono inner (fun v s' hv => ?_) fun _ _ e => e))
  obtain ⟨b, rfl, hv⟩ := hv
  exact wpAny_pure (wpAny_pure hv)
theorem c_ne {c : Nat} (hu : X.A.units + 66 < cLine) (hn : PySem.W.findIn X.K (.ref (cl c)) "__ne__" = some (some (.builtin "object.__ne__"))) (ho : PySem.W.mroIn X.K (cl c) (.type "object") = some true) (hs : PySem.W.findIn X.K (.ref (cl c)) "__eq__" = some (some (.ref f))) (hf : PySem.W.isFn X.K (.ref f) = true)
    (F : FnOk X.prog X.w X.K X.mg X.base (L2.CX X.prog X.w) k f fd ps (spL X.K cl Fn)) (hr : Room (k + 1) X.A) (hb : Binds X.K fd ps []) (tk : Takes X W) (ha : PE X a (tE X cl W fa)) (hb' : PE X b (tE X cl W fb)) :
    PC X .NotEq a b (tE X cl W fun ρ S => (fa ρ S).bind fun d S => (fb ρ S).bind fun e S => if isIns c S d && isIns c S e then (callA Fn [d, e] S).bind fun r S => match r with
        | .p (.bl b) => .ok (.p (.bl (!b))) S
        | _ => .bad
      else .bad) := by
  refine ⟨fun pins s σ H Q I ⟨ρ, S, μ, Fh, B, r, h⟩ => binT ha hb' I (R := tTwo X.K cl c Fn (fun v H => ∃ b : Bool, v = .bl b ∧ Q (.bl (!b)) H) (WS W σ)) (two_ins B r h fun d S1 μ1 H1 v B1 r1 h1 => ?_) fun v u s2 x y H2 I2 rx ry q => ?_⟩
  · split at h1
    · obtain rfl := rep_bl r1
      exact ⟨_, rfl, give B1 h1 rfl⟩
    · exact h1.elim
  obtain ⟨ax, dx, fx, ay, dy, fy, rfl, hax, rfl, hay, q⟩ := q
  obtain rfl : v = Value.ref ax := rx
  obtain rfl : u = Value.ref ay := ry
  obtain ⟨m, Fr⟩ := I2.fr
  obtain ⟨_, _, IA⟩ := inst_at I2 hax
  obtain ⟨_, _, IB⟩ := inst_at I2 hay
  unfold compareOp
  refine ne_K (by omega) Fr I2.ok.mod.kin IA IB hn hs hf ho (thn (run_at (vs := [.ref ax, .ref ay]) F hr.in1 I2.env0.in1 hb tk I2 (.cons rfl (.cons rfl .nil)) q) fun v s' hv => ?_)
  obtain ⟨z, H3, I3, rz, b, e, q3⟩ := hv
  subst e
  cases rz
  exact ⟨b, rfl, .bl (!b), H3, I3, rfl, q3⟩
/-! ### constructors -/
theorem RepDL.low {K : PySem.W.Frag} {μ : List Addr} {x : Addr} {G0 G : Hp} : ∀ {vs : List D} {xs0 xs : List V}, RepDL K cl μ G0 vs xs0 → RepDL K cl (μ ++ [x]) G vs xs → RepDL K cl μ G vs xs
  | [], _, _, _, h => h
  | .p y :: vs, _, _, ⟨_, _, _, _, h0⟩, ⟨v, r, e, h, t⟩ => ⟨v, r, e, h, RepDL.low h0 t⟩
  | .box n :: vs, _, _, ⟨_, _, _, ⟨b, _, hb⟩, h0⟩, ⟨v, r, e, ⟨a, e2, h⟩, t⟩ => by
    rw [List.getElem?_append_left (List.getElem?_eq_some_iff.mp hb).1] at h
    exact ⟨v, r, e, ⟨a, e2, h⟩, RepDL.low h0 t⟩
/-- the last box is let go -/
theorem Bears.cut {K : PySem.W.Frag} {F μ : List Addr} {a : Addr} {S : Sto} {o : Option O} {H0 H : Hp} (B0 : Bears K cl F μ H0 S) (B : Bears K cl F (μ ++ [a]) H (S ++ [o])) : Bears K cl F μ H S ∧ Gle (Gz F (μ ++ [a]) (S ++ [o]) H) (Gz F μ S H) := by
  have gl : Gle (Gz F (μ ++ [a]) (S ++ [o]) H) (Gz F μ S H) := Gle.of fun b u h => by
    obtain ⟨h1, h2, h3⟩ := gz_some h
    rw [gz_of (fun ⟨n, x, e1, e2⟩ => h1 ⟨n, x, pre_get (List.prefix_append _ _) e1, pre_get (List.prefix_append _ _) e2⟩) h2]
    exact h3
  have nd := B.nd
  rw [List.nodup_append] at nd
  refine ⟨⟨B0.len, nd.1, fun n b ob h1 h2 => ?_, fun n b hn => B.dom n b (pre_get (List.prefix_append _ _) hn), fun n b hn => B.nf n b (pre_get (List.prefix_append _ _) hn), B.hd⟩, gl⟩
  have q := B.obj n b ob (pre_get (List.prefix_append _ _) h1) (pre_get (List.prefix_append _ _) h2)
  have q0 := B0.obj n b ob h1 h2
  cases ob with
  | lst l => obtain ⟨xs, e, r⟩ := q; exact ⟨xs, e, RepL.mono gl l xs r⟩
  | dk ks vs => obtain ⟨kvs, e, kk, r⟩ := q; exact ⟨kvs, e, kk, RepL.mono gl vs _ r⟩
  | dt ks vs => obtain ⟨kvs, e, kk, r⟩ := q; exact ⟨kvs, e, kk, RepL.mono gl vs _ r⟩
  | ins c ns vs =>
    obtain ⟨dx, ys, e, kk, r⟩ := q
    obtain ⟨_, _, _, _, r0⟩ := q0
    exact ⟨dx, ys, e, kk, RepDL.low r0 (RepDL.mono (List.prefix_refl _) gl r)⟩
theorem args_p {S : Sto} : ∀ (ps : List P), toArgs S (ps.map .p) = some (ps.map .p, [])
  | [] => rfl
  | p :: ps => by
    show (toArgs S (ps.map .p)).map _ = _
    rw [args_p ps]
    rfl
theorem boxes_p : ∀ (ps : List P), boxesA (ps.map .p) = []
  | [] => rfl
  | _ :: ps => boxes_p ps
theorem callA_mk {Fn : List Arg → LR} {c : Nat} {qs : List P} {S : Sto} : callA Fn (.box S.length :: qs.map .p) (S ++ [some (.ins c [] [])]) = (match Fn (.o (.ins c [] []) :: qs.map .p) with
      | .ok (.p r) os => if os.length = 1 ∧ os.all O.pure = true then .ok (.p r) (setOuts (S ++ [some (.ins c [] [])]) [S.length] os) else .bad
      | .ok (.o o) os => if os.length = 1 ∧ os.all O.pure = true ∧ o.pure = true then .ok (.box (S ++ [some (O.ins c [] [])]).length) (setOuts (S ++ [some (.ins c [] [])]) [S.length] os ++ [some o]) else .bad
      | .rse c' xs vs os => if os.length = 1 ∧ os.all O.pure = true then .rse c' xs vs (setOuts (S ++ [some (.ins c [] [])]) [S.length] os) else .bad
      | .bad => .bad) := by
  have e : toArgs (S ++ [some (.ins c [] [])]) (.box S.length :: qs.map .p) = some (.o (.ins c [] []) :: qs.map .p, [S.length]) := by
    simp only [toArgs]
    rw [List.getElem?_append_right (Nat.le_refl _)]
    simp [args_p]
  unfold callA
  rw [e]
  dsimp only
  rw [if_pos ⟨by simp, by show (some (O.ins c [] []) :: boxesA (qs.map .p)).all purO = true; rw [boxes_p]; rfl⟩]
  rfl
theorem mk_give {K : PySem.W.Frag} {F μ : List Addr} {S : Sto} {H : Hp} {W : XK} {c : Nat} {qs : List P} {vs : List V} {Q : VK} {x dx : Addr} (B : Bears K cl F μ H S) (r : RepL K cl (Gz F μ S H) qs vs) (h : Sat K cl F μ S H (RD K cl) (mkF fz c Fn qs S) W Q)
    (hx : H x = none) (hdx : H dx = none) (ne : dx ≠ x) : spL K cl Fn (.ref x :: vs) (upd (upd H dx (.own x)) x (.ins (cl c) dx [])) (fun v H2 => v = .non ∧ Q (.ref x) H2) W := by
  obtain ⟨B1, f1⟩ := B.fresh (o := .own x) hdx
  have hx1 : (upd H dx (.own x)) x = none := by rw [upd_ne (Ne.symm ne)]; exact hx
  obtain ⟨B2, f2⟩ := B1.boxed (a := x) (o := .ins c [] []) (H' := upd (upd H dx (.own x)) x (.ins (cl c) dx [])) (upd_keep hx1) hx1 (by rw [upd_same]; exact fun z => by cases z) (fun z => B1.hd x z hx1) ⟨dx, [], upd_same, rfl, rfl⟩
  have f12 := f1.trans f2
  refine lift (ds := .box S.length :: qs.map .p) B2 ⟨.ref x, vs, rfl, ⟨x, rfl, by rw [← B.len]; simp⟩, repDL_p (RepL.mono f12.gle _ _ r)⟩ ?_
  rw [callA_mk]
  have so1 : ∀ o : O, setOuts (S ++ [some (.ins c [] [])]) [S.length] [o] = S ++ [some o] := fun o => by
    show (S ++ [some (O.ins c [] [])]).set S.length (some o) = _
    rw [List.set_append_right _ _ (Nat.le_refl _)]
    simp
  have two : ∀ {μ3 : List Addr} {o : O} {H3 : Hp}, Bears K cl F μ3 H3 (S ++ [some o]) → Fra (μ ++ [x]) (S ++ [some (.ins c [] [])]) (upd (upd H dx (.own x)) x (.ins (cl c) dx [])) μ3 (S ++ [some o]) H3 → μ3 = μ ++ [x] := fun B3 f3 => pre_len f3.pre (by rw [B3.len]; simp [B.len])
  have fS : ∀ {o : Option O} {H3 : Hp}, Fra (μ ++ [x]) (S ++ [some (.ins c [] [])]) (upd (upd H dx (.own x)) x (.ins (cl c) dx [])) (μ ++ [x]) (S ++ [o]) H3 → Fra μ S H μ S H3 := fun f3 =>
    ⟨List.prefix_refl _, fun a u h1 h2 => ⟨((f12.trans f3).keep a u h1 h2).1, h1⟩, (f12.trans f3).dom⟩
  cases hF : Fn (.o (.ins c [] []) :: qs.map .p) with
  | bad => simp only [mkF, hF] at h; exact h.elim
  | rse c' xs ws os =>
    simp only [mkF, hF] at h
    rcases os with _ | ⟨o, _ | ⟨o2, os⟩⟩
    · exact h.elim
    · simp only at h
      split at h
      · rename_i hp
        dsimp only
        rw [if_pos ⟨rfl, by simpa using hp⟩, so1]
        intro dd μ3 H3 B3 f3 rx
        obtain rfl := two B3 f3
        obtain ⟨B4, gl⟩ := Bears.cut B B3
        exact h dd μ H3 B4 (fS f3) (rx.elim .inl fun ⟨d, fs, e1, e2, e3, e4⟩ => .inr ⟨d, fs, e1, e2, e3, RepL.mono gl _ _ e4⟩)
      · exact h.elim
    · exact h.elim
  | ok ra os =>
    simp only [mkF, hF] at h
    cases ra with
    | o o => exact h.elim
    | p y =>
      cases y <;> first | exact h.elim | skip
      rcases os with _ | ⟨o, _ | ⟨o2, os⟩⟩
      · exact h.elim
      · simp only at h
        split at h
        · rename_i hp
          dsimp only
          rw [if_pos ⟨rfl, by simpa using hp⟩, so1]
          intro v μ3 H3 B3 f3 rv
          obtain rfl := two B3 f3
          refine ⟨rv, ?_⟩
          cases fz with
          | false => exact h (.ref x) (μ ++ [x]) H3 B3 (f12.trans f3) ⟨x, rfl, by rw [← B.len]; simp⟩
          | true =>
            obtain ⟨p, e, h2⟩ := Sat.opt h
            obtain ⟨q, hc, rfl⟩ := Option.map_eq_some_iff.mp e
            obtain ⟨B4, f4, r4⟩ := B3.freeze (n := S.length) (a := x) (o := o) (p := q) (by rw [← B.len]; simp) (by simp) hc
            have e5 : (S ++ [some o]).set S.length none = S ++ [none] := by
              rw [List.set_append_right _ _ (Nat.le_refl _)]
              simp
            rw [e5] at B4 f4 r4
            obtain ⟨B5, gl⟩ := Bears.cut B B4
            exact h2 (.ref x) μ H3 B5 (fS (f3.trans f4)) (Rep.mono gl _ _ r4)
        · exact h.elim
      · exact h.elim
theorem run_makeSD {pins : List (Addr × Obj)} {σ : L2.St} {H : Hp} {s : Shared} {Q : VK} {us : List Value} {vs : List V} {sp : Sp} (M : Mk X.K C f) (F : FnOk X.prog X.w X.K X.mg X.base (L2.CX X.prog X.w) k f fd ps sp) (hr : Room (k + 1) X.A) (hb : Binds X.K fd ps ds') (hd : Vals dvs ds')
    (tk : Takes X W) (I : Inv X pins σ H s) (r : Vals vs us)
    (h : ∀ x dx, H x = none → H dx = none → dx ≠ x → sp (.ref x :: (vs ++ dvs)) (upd (upd H dx (.own x)) x (.ins C dx [])) (fun v H2 => v = .non ∧ Q (.ref x) H2) (WS W σ)) :
    wpAny (model X.prog X.w) X.A (call (.ref C) us) (EP X pins σ Q) X.xe s := by
  have hq := h (s.heap.objs.size + 1) s.heap.objs.size (I.hok.fresh (Nat.le_succ _)) (I.hok.fresh (Nat.le_refl _)) (Nat.ne_of_lt (Nat.lt_succ_self _))
  have I2 := Inv.made (C := C) I
  have r2 : Vals (V.ref (s.heap.objs.size + 1) :: (vs ++ dvs)) (Value.ref (s.heap.objs.size + 1) :: (us ++ ds')) := .cons rfl (r.append hd)
  have hl : (Value.ref (s.heap.objs.size + 1) :: us ++ ds').length = ps.length := by
    have e := r2.length
    rw [F.len _ _ _ _ hq] at e
    exact e.symm
  refine wpAny_call (make_map (f := f) I.kIn M.makes M.init (beq_iff_eq.mp M.fn) (codeAny_mono (F.run _ X.stack _ _ ⟨Value.ref (s.heap.objs.size + 1) :: us, []⟩ (Value.ref (s.heap.objs.size + 1) :: (us ++ ds')) _ _ (WS W σ) (hr.make C us [])
    (I2.env0.make C us []) (hb _ (Value.ref (s.heap.objs.size + 1) :: us) I2.kIn hl) r2 hq) fun r s' hq' => ?_))
  cases r with
  | error e => exact passAt tk σ pins _ _ e s' I2 hq'
  | ok fl =>
    cases fl with
    | ret u =>
      obtain ⟨v, H', I3, rv, ev, q3⟩ := I2.after hq'
      subst ev
      exact ⟨rv, ⟨V.ref (s.heap.objs.size + 1), H', I3, rfl, q3⟩⟩
    | next => exact False.elim hq'
    | brk => exact False.elim hq'
    | cont => exact False.elim hq'
theorem e_mk {g : List (Option D) → Sto → Res (List D)} {c : Nat} (M : Mk X.K (cl c) f) (F : FnOk X.prog X.w X.K X.mg X.base (L2.CX X.prog X.w) k f fd ps (spL X.K cl Fn)) (hr : Room (k + 1) X.A) (hg : Gl X x) (hm : X.mg x = some (.ref (cl c))) (hb : Binds X.K fd ps ds') (hd : Vals dvs ds')
    (hdr : ∀ G, RepL X.K cl G dfl dvs) (tk : Takes X W) (hdb : (x == ("__debug__" : Str)) = false) (hs : (e :: es).all noStar = true) (ha : PA X (e :: es) (tA X cl W g)) :
    PE X (.Call (.Name x p) (e :: es) [] pos) (tE X cl W fun ρ S => (g ρ S).bind fun ds S => (frzL S ds).bind fun ps S => mkF fz c Fn (ps ++ dfl) S) := by
  have hs' := hs
  rw [List.all_cons, Bool.and_eq_true] at hs'
  refine ⟨fun pins s σ H Q I ⟨ρ, S, μ, Fh, B, r, h⟩ => wpAny_Call_Name_kw (ld_glob I hg hm ?_ hdb)⟩
  refine PySem.W.callWith_K (h₀ := X.base) I.ok.mod.kin M.kp (thn (ha.run pos pins s σ H (fun vs H1 => ∀ x dx, H1 x = none → H1 dx = none → dx ≠ x → spL X.K cl Fn (.ref x :: (vs ++ dvs)) (upd (upd H1 dx (.own x)) x (.ins (cl c) dx [])) (fun v H2 => v = .non ∧ Q (.ref x) H2) (WS W σ)) I ?_) fun us s1 ⟨vs, H1, I1, r, q⟩ => ⟨I1.kIn, ?_⟩) (star_cons hs'.1) (star_none hs'.2)
  · refine stepA B r h fun xs H1 ds S1 μ1 B1 f1 r1 rds h1 => ?_
    obtain ⟨ps, S2, e2, l2, B2, f2, r2, h2⟩ := Sat.frzL B1 rds h1
    exact fun x dx hx hdx ne => mk_give B2 (r2.app (hdr _)) h2 hx hdx ne
  · exact run_makeSD M F hr hb hd tk I1 r q
theorem e_mk0 {c : Nat} (M : Mk X.K (cl c) f) (F : FnOk X.prog X.w X.K X.mg X.base (L2.CX X.prog X.w) k f fd ps (spL X.K cl Fn)) (hr : Room (k + 1) X.A) (hg : Gl X x) (hm : X.mg x = some (.ref (cl c))) (hb : Binds X.K fd ps ds') (hd : Vals dvs ds')
    (hdr : ∀ G, RepL X.K cl G dfl dvs) (tk : Takes X W) (hdb : (x == ("__debug__" : Str)) = false) :
    PE X (.Call (.Name x p) [] [] pos) (tE X cl W fun ρ S => (Res.ok ([] : List D) S).bind fun ds S => (frzL S ds).bind fun ps S => mkF fz c Fn (ps ++ dfl) S) := by
  refine ⟨fun pins s σ H Q I ⟨ρ, S, μ, Fh, B, r, h⟩ => wpAny_Call_Name_kw (ld_glob I hg hm ?_ hdb)⟩
  exact PySem.W.callWith_K0 I.kIn M.kp (run_makeSD (us := []) (vs := []) M F hr hb hd tk I .nil fun x dx hx hdx ne => mk_give (qs := dfl) B (hdr _) h hx hdx ne)
end
end PD
/-! Tests; all, any, [::-1], isinstance, list(d.items()). -/
namespace PD
open PySem L2 PySem.Spec PyProof.Rows
section
variable {X : Cx} {cl : Nat → Addr} {W : WX}
/-! ### tests -/
def tTru (X : Cx) (t : TE) : TT := fun σ H Q => t σ H fun x H1 => ∃ k, TruV X.K x H1 k ∧ Q k H1
theorem pt_plain {e : Expr} {t : TE} (h : PE X e t) (hp : plainTest e = true) : PT X e (tTru X t) := by
  refine ⟨fun pins s σ H Q I hw => ?_⟩
  refine isTrue_plain (thn (h.run pins s σ H _ I hw) fun v s1 ⟨x, H1, I1, r1, q1⟩ => ?_) (test_plain hp _)
  exact tru_ok pins s1 σ H1 x v Q I1 r1 q1
theorem pt_cmp1 {op : CmpOp} {a b : Expr} {pos : Pos} {t : TE} (h : PC X op a b t) (h1 : behindInMarks op b = false) : PT X (.Compare a [op] [b] pos) (tTru X t) := by
  refine ⟨fun pins s σ H Q I hw => ?_⟩
  refine wpAny_isTrue_Compare1 (thn (h.run pins s σ H _ I hw) fun v s1 h1 => thn h1 fun u s2 h2 => thn h2 fun c s3 ⟨x, H1, I1, r1, q1⟩ => ?_) h1
  exact tru_ok pins s3 σ H1 x c Q I1 r1 q1
theorem t_tru {e : Expr} {f : List (Option D) → Sto → Res D} (h : PT X e (tTru X (tE X cl W f))) : PT X e (tT X cl W fun ρ S => (f ρ S).bind fun d S => optR ((view S d).bind truth) S) := by
  refine h.imp fun σ H Q ⟨ρ, S, μ, F, B, r, h⟩ => stepE B r h fun x H1 d S1 μ1 B1 f1 r1 rd h1 => ?_
  obtain ⟨b, e2, h2⟩ := Sat.opt h1
  obtain ⟨p, e3, e4⟩ := Option.bind_eq_some_iff.mp e2
  exact ⟨b, truth_ok gz_gle (view_vw B1 rd e3) e4, h2 b μ1 H1 B1 Fra.refl rfl⟩
theorem t_not {a : Expr} {pos : Pos} {f : List (Option D) → Sto → Res Bool} (h : PT X a (tT X cl W f)) : PT X (.UnaryOp .Not a pos) (tT X cl W fun ρ S => (f ρ S).bind fun b S => .ok (!b) S) := by
  refine (pt_not h).imp fun σ H Q ⟨ρ, S, μ, F, B, r, h⟩ => stepT B r h fun b H1 S1 μ1 B1 f1 r1 h1 => ?_
  exact h1 (!b) μ1 H1 B1 Fra.refl rfl
theorem t_and {a b : Expr} {r : List Expr} {pos : Pos} {f g : List (Option D) → Sto → Res Bool} (ha : PT X a (tT X cl W f)) (hb : PW X (.BoolOp .And (b :: r) pos) (tT X cl W g)) :
    PW X (.BoolOp .And (a :: b :: r) pos) (tT X cl W fun ρ S => (f ρ S).bind fun b S => if b then g ρ S else .ok false S) := by
  refine (pw_and ha hb).imp fun σ H Q ⟨ρ, S, μ, F, B, r, h⟩ => stepT B r h fun b H1 S1 μ1 B1 f1 r1 h1 => ?_
  cases b with
  | true => exact ⟨ρ, S1, μ1, F, B1, r1, h1⟩
  | false => exact h1 false μ1 H1 B1 Fra.refl rfl
theorem t_or {a b : Expr} {r : List Expr} {pos : Pos} {f g : List (Option D) → Sto → Res Bool} (ha : PT X a (tT X cl W f)) (hb : PW X (.BoolOp .Or (b :: r) pos) (tT X cl W g)) :
    PW X (.BoolOp .Or (a :: b :: r) pos) (tT X cl W fun ρ S => (f ρ S).bind fun b S => if b then .ok true S else g ρ S) := by
  refine (pw_or ha hb).imp fun σ H Q ⟨ρ, S, μ, F, B, r, h⟩ => stepT B r h fun b H1 S1 μ1 B1 f1 r1 h1 => ?_
  cases b with
  | false => exact ⟨ρ, S1, μ1, F, B1, r1, h1⟩
  | true => exact h1 true μ1 H1 B1 Fra.refl rfl
/-! ### all, any -/
theorem bools_of {K : PySem.W.Frag} {G : Hp} : ∀ {l : List P} {bs : List Bool} {xs : List V}, boolsOf l = some bs → RepL K cl G l xs → xs = bs.map V.bl
  | [], bs, xs, h, r => by cases h; exact r
  | .bl b :: l, bs, xs, h, ⟨v, t, e, r1, r2⟩ => by
    have h' : (boolsOf l).map (b :: ·) = some bs := h
    obtain ⟨bs', e2, rfl⟩ := Option.map_eq_some_iff.mp h'
    rw [e, bools_of e2 r2, show v = V.bl b from r1]
    rfl
  | .non :: _, _, _, h, _ => by cases h
  | .int _ :: _, _, _, h, _ => by cases h
  | .str _ :: _, _, _, h, _ => by cases h
  | .tup _ :: _, _, _, h, _ => by cases h
  | .lst _ :: _, _, _, h, _ => by cases h
  | .ktup _ :: _, _, _, h, _ => by cases h
  | .fls _ :: _, _, _, h, _ => by cases h
  | .dk _ _ :: _, _, _, h, _ => by cases h
  | .dt _ _ :: _, _, _, h, _ => by cases h
  | .ins _ _ _ :: _, _, _, h, _ => by cases h
theorem call_all_ok (hc : X.calm = true) (W : XK) : CallR X (.builtin "all") (RC1 X cl W .all) := by
  intro pins s σ H xs us Q I r h
  obtain ⟨x, rfl, F, μ, S, p, z, B, vp, hz, h⟩ := h
  cases p <;> first | (cases hz; done) | skip
  obtain ⟨bs, e, rfl⟩ := Option.map_eq_some_iff.mp hz
  obtain ⟨a, xs, rfl, ha, rl⟩ := vp
  have e2 := bools_of e rl
  subst e2
  exact cr_all hc pins s σ H _ us Q I r ⟨a, bs, rfl, .inl (.inl ha), give B h rfl⟩
theorem call_any_ok (hc : X.calm = true) (W : XK) : CallR X (.builtin "any") (RC1 X cl W .any) := by
  intro pins s σ H xs us Q I r h
  obtain ⟨x, rfl, F, μ, S, p, z, B, vp, hz, h⟩ := h
  cases p <;> first | (cases hz; done) | skip
  obtain ⟨bs, e, rfl⟩ := Option.map_eq_some_iff.mp hz
  obtain ⟨a, xs, rfl, ha, rl⟩ := vp
  have e2 := bools_of e rl
  subst e2
  exact cr_any hc pins s σ H _ us Q I r ⟨a, bs, rfl, .inl (.inl ha), give B h rfl⟩
theorem RepL.rev {K : PySem.W.Frag} {G : Hp} : ∀ {l : List P} {xs : List V}, RepL K cl G l xs → RepL K cl G l.reverse xs.reverse
  | [], _, h => by rw [show _ = [] from h]; rfl
  | p :: l, _, ⟨v, r, e, h, t⟩ => by
    rw [e, List.reverse_cons, List.reverse_cons]
    exact (RepL.rev t).app (RepL.one h)
theorem e_rev {e : Expr} {k : Nat} {p1 p2 p3 pos : Pos} {f : List (Option D) → Sto → Res D} (he : PE X e (tE X cl W f)) :
    PE X (.Subscript e (.Slice none none (some (.UnaryOp .USub (.Constant (.int 1) k p1) p2)) p3) pos) (tE X cl W fun ρ S => (f ρ S).bind fun d S => optR ((view S d).bind fun x => (prim1 .rev x).map .p) S) := by
  refine (pe_revL he).imp fun σ H Q ⟨ρ, S, μ, F, B, r, h⟩ => stepE B r h fun x H1 d S1 μ1 B1 f1 r1 rd h1 => ?_
  obtain ⟨d2, e2, h2⟩ := Sat.opt h1
  obtain ⟨p, e3, e4⟩ := Option.bind_eq_some_iff.mp e2
  obtain ⟨z, e5, rfl⟩ := Option.map_eq_some_iff.mp e4
  have v := view_vw B1 rd e3
  cases p <;> first | (cases e5; done) | skip
  · obtain ⟨a, xs, rfl, ha, rl⟩ := v
    cases e5
    exact ⟨a, xs, rfl, .inl (.inl ha), give_lst B1 h2 rl.rev⟩
  · obtain ⟨a, xs, rfl, ha, rl⟩ := v
    cases e5
    exact ⟨a, xs, rfl, gz_gle.sqL ha, give_lst B1 h2 rl.rev⟩
/-! ### isinstance -/
/-- what the own classes below n have for isinstance -/
structure InsCls (K : PySem.W.Frag) (C : Addr) : Prop where
  cls : Cls K C
  ha : PySem.W.findIn K (.ref C) "__class__" = some (some (.builtin "object.__class__"))
  hn : PySem.W.specialIn K (.builtin "object.__class__") "__get__" = some (some (.builtin "getset_descriptor.__get__"))
  htk : PySem.W.takesIn K (.builtin "object.__class__") = some true
  hm : PySem.W.mroIn K C (.type "object") = some true
def tyV (cl : Nat → Addr) : P → Value
  | .non => .type "NoneType"
  | .bl _ => .type "bool"
  | .int _ => .type "int"
  | .str _ => .type "str"
  | .tup _ | .ktup _ => .type "tuple"
  | .lst _ | .fls _ => .type "list"
  | .dk _ _ | .dt _ _ => .type "dict"
  | .ins c _ _ => .ref (cl c)
/-- one of each kind -/
def kinds (n : Nat) : List P := [.non, .bl false, .int 0, .str "", .tup [], .lst [], .dk [] []] ++ (List.range n).map fun c => .ins c [] []
/-- isinstance's answers are the ones of isTy -/
def KitOk (K : PySem.W.Frag) (cl : Nat → Addr) (n : Nat) (ts : List Ty) (us : List Value) : Prop := ∀ p ∈ kinds n, PySem.W.kitAny K (tyV cl p) us = some (ts.any (isTy p))
theorem kit_ok {K : PySem.W.Frag} {G H : Hp} {n : Nat} {ts : List Ty} {us : List Value} (g : Gle G H) (hc : ∀ c, c < n → InsCls K (cl c)) (ok : KitOk K cl n ts us) {p z : P} {v : V} (h : Vw K cl G H p v) (e : prim1 (.isA n ts) p = some z) :
    ∃ b, z = .bl b ∧ TyX K H v (tyV cl p) ∧ PySem.W.kitAny K (tyV cl p) us = some b := by
  have all : ∀ q ∈ kinds n, tyV cl q = tyV cl p → ts.any (isTy q) = ts.any (isTy p) → PySem.W.kitAny K (tyV cl p) us = some (ts.any (isTy p)) := fun q hq e1 e2 => by rw [← e1, ← e2]; exact ok q hq
  have mem : ∀ q ∈ ([.non, .bl false, .int 0, .str "", .tup [], .lst [], .dk [] []] : List P), q ∈ kinds n := fun q hq => List.mem_append_left _ hq
  have anyC : ∀ q q' : P, (∀ t, isTy q t = isTy q' t) → ts.any (isTy q) = ts.any (isTy q') := fun q q' h => by rw [show isTy q = isTy q' from funext h]
  cases p with
  | non => cases e; exact ⟨_, rfl, (show v = .non from h) ▸ .base .non, all .non (mem _ (by simp)) rfl rfl⟩
  | bl b => cases e; exact ⟨_, rfl, (show v = .bl b from h) ▸ .base (.bl b), all (.bl false) (mem _ (by simp)) rfl (anyC _ _ fun t => by cases t <;> rfl)⟩
  | int b => cases e; exact ⟨_, rfl, (show v = .int b from h) ▸ .base (.int b), all (.int 0) (mem _ (by simp)) rfl (anyC _ _ fun t => by cases t <;> rfl)⟩
  | str b => cases e; exact ⟨_, rfl, (show v = .str b from h) ▸ .base (.str b), all (.str "") (mem _ (by simp)) rfl (anyC _ _ fun t => by cases t <;> rfl)⟩
  | tup l =>
    cases e
    obtain ⟨a, xs, rfl, ha, _⟩ := h
    exact ⟨_, rfl, .base (.tup (g.ex a (.tup xs) trivial ha)), all (.tup []) (mem _ (by simp)) rfl (anyC _ _ fun t => by cases t <;> rfl)⟩
  | lst l =>
    cases e
    obtain ⟨a, xs, rfl, ha, _⟩ := h
    exact ⟨_, rfl, .base (.lst ha), all (.lst []) (mem _ (by simp)) rfl (anyC _ _ fun t => by cases t <;> rfl)⟩
  | ktup l => cases e
  | fls l => cases e
  | dt ks vs => cases e
  | dk ks vs =>
    cases e
    obtain ⟨a, kvs, rfl, ha, _⟩ := h
    refine ⟨_, rfl, ?_, all (.dk [] []) (mem _ (by simp)) rfl (anyC _ _ fun t => by cases t <;> rfl)⟩
    rcases ha with ha | ⟨o, ha⟩
    · exact .base (.dK ha)
    · exact .fDict ha
  | ins c ns vs =>
    simp only [prim1] at e
    split at e
    · rename_i hlt
      cases e
      obtain ⟨a, dx, ys, rfl, ha, _⟩ := h
      have ci := hc c hlt
      exact ⟨_, rfl, .base (.ins ha ci.cls ci.ha ci.hn ci.htk ci.hm), all (.ins c [] []) (List.mem_append_right _ (List.mem_map.mpr ⟨c, List.mem_range.mpr hlt, rfl⟩)) rfl (anyC _ _ fun t => by cases t <;> rfl)⟩
    · cases e
theorem kit_one {K : PySem.W.Frag} {t u : Value} {b : Bool} (h : PySem.W.kitAny K t [u] = some b) : PySem.W.kitOne K t u = some b := by
  unfold PySem.W.kitAny at h
  split at h
  · cases h; assumption
  · unfold PySem.W.kitAny at h; cases h; assumption
  · cases h
theorem e_isA1 {n : Nat} {ts : List Ty} {a c : Expr} {vc : V} {u : Value} {p pos : Pos} {f : List (Option D) → Sto → Res D} (hc : ∀ c, c < n → InsCls X.K (cl c)) (ok : KitOk X.K cl n ts [u]) (hcl : ClsV vc u) (hvc : PE X c (tC vc))
    (hg : Gl X "isinstance") (hm : X.mg "isinstance" = none) (hs1 : noStar a = true) (hs2 : noStar c = true) (ha : PE X a (tE X cl W f)) :
    PE X (.Call (.Name "isinstance" p) [a, c] [] pos) (tE X cl W fun ρ S => (f ρ S).bind fun d S => optR ((view S d).bind fun x => (prim1 (.isA n ts) x).map .p) S) := by
  refine (pe_callB call_isi hg hm (by first | rfl | decide +kernel) (pa_cons ha (pa_cons hvc pa_nil (star_cons hs2)) (star_cons hs1)) (he := star_cons hs1) (hpl := star_none (by simp [hs2]))).imp fun σ H Q ⟨ρ, S, μ, F, B, r, h⟩ => ?_
  refine stepE B r h fun x H1 d S1 μ1 B1 f1 r1 rd h1 => ?_
  obtain ⟨d2, e2, h2⟩ := Sat.opt h1
  obtain ⟨q, e3, e4⟩ := Option.bind_eq_some_iff.mp e2
  obtain ⟨z, e5, rfl⟩ := Option.map_eq_some_iff.mp e4
  obtain ⟨b, rfl, ty, kk⟩ := kit_ok gz_gle hc ok (view_vw B1 rd e3) e5
  exact ⟨x, vc, _, u, b, rfl, hcl, ty, kit_one kk, give B1 h2 rfl⟩
theorem e_isAT {n : Nat} {ts : List Ty} {a : Expr} {cs : List Expr} {vcs : List V} {us : List Value} {x1} {p pos pt : Pos} {f : List (Option D) → Sto → Res D} (hc : ∀ c, c < n → InsCls X.K (cl c)) (ok : KitOk X.K cl n ts us) (hcl : Paired ClsV vcs us) (hz : vcs.length ≤ sizeLine) (hvc : PA X cs fun σ H Q => Q vcs H)
    (hg : Gl X "isinstance") (hm : X.mg "isinstance" = none) (hs1 : noStar a = true) (ha : PE X a (tE X cl W f)) :
    PE X (.Call (.Name "isinstance" p) [a, .Tuple cs x1 pt] [] pos) (tE X cl W fun ρ S => (f ρ S).bind fun d S => optR ((view S d).bind fun x => (prim1 (.isA n ts) x).map .p) S) := by
  refine (pe_callB call_isiT hg hm (by first | rfl | decide +kernel) (pa_cons ha (pa_cons (pe_tup hvc) pa_nil (star_cons rfl)) (star_cons hs1)) (he := star_cons hs1) (hpl := star_none rfl)).imp fun σ H Q ⟨ρ, S, μ, F, B, r, h⟩ => ?_
  refine stepE B r h fun x H1 d S1 μ1 B1 f1 r1 rd h1 => ⟨hz, fun tp htp => ?_⟩
  obtain ⟨B2, f2⟩ := B1.fresh (o := .tup vcs) htp
  obtain ⟨d2, e2, h2⟩ := Sat.opt h1
  obtain ⟨q, e3, e4⟩ := Option.bind_eq_some_iff.mp e2
  obtain ⟨z, e5, rfl⟩ := Option.map_eq_some_iff.mp e4
  obtain ⟨b, rfl, ty, kk⟩ := kit_ok gz_gle hc ok (view_vw B2 (rd.mono f2.pre f2.gle (cl := cl)) e3) e5
  exact ⟨x, tp, vcs, _, us, b, rfl, upd_same, hcl, ty, kk, h2 _ μ1 _ B2 f2 rfl⟩
/-! ### list(d.items()) -/
def rItemsR : V → Hp → VK → Prop := fun x H Q => ∃ (d : Addr) (kvs : List (Key × V)), x = .ref d ∧ Rd H d (.dK kvs) ∧
  ∀ (H' : Hp) (p : Addr) (ts : List Addr), (∀ b o, H b = some o → H' b = some o) → H p = none → (∀ t ∈ ts, H t = none) → p ∉ ts → H' p = some (.lst (ts.map V.ref)) → Paired (fun (t : Addr) (q : Key × V) => H' t = some (.tup [kV q.1, q.2])) ts kvs → Q (.ref p) H'
theorem pe_listItemsR {e : Expr} {te : TE} {p apos cpos pos : Pos} (hc : X.calm = true) (he : PE X e te) (hg : Gl X "list") (hm : X.mg "list" = none) (hv : bootBuiltins "list" = some (.type "list")) (hbase : attributeBase e "items" X.env (eval e X.env) = eval e X.env) (hline : (apos.endLine == cpos.line) = true)
    (hs : starEach [.Call (.Attribute e "items" apos) [] [] cpos] X.env = (false, eval (.Call (.Attribute e "items" apos) [] [] cpos) X.env) :: starEach [] X.env := by rfl) :
    PE X (.Call (.Name "list" p) [.Call (.Attribute e "items" apos) [] [] cpos] [] pos) (fun σ H Q => te σ H fun x H1 => rItemsR x H1 Q) := by
  refine ⟨fun pins s σ H Q I hq => ?_⟩
  refine wpAny_Call_Name_kw (ld_blt I hg hm hv ?_)
  refine PyProof.Rows.callWith_type1 ?_ hs rfl
  rw [hs]
  show wpAny _ _ (spliced ((false, eval (.Call (.Attribute e "items" apos) [] [] cpos) X.env) :: backTo pos (starEach [] X.env))) _ _ s
  refine Calls.spliced_cons ?_
  refine wpAny_Call_method (T := "dict") (id := "dict.items") hbase rfl hline PySem.F.plainAttrs_dict PySem.F.slot_dict_items PySem.F.type_dict_items (thn (he.run pins s σ H _ I hq) fun u s1 ⟨x, H1, I1, rx, d, kvs, ex, hd, q⟩ => ?_)
  subst ex
  obtain rfl : u = Value.ref d := rx
  obtain ⟨hz, hs0, vs, kv, hdo⟩ := hd.ok I1.hok
  obtain ⟨ep, hat⟩ := hdo.dictAt
  have lk : kvs.length = vs.length := Paired.length kv
  have I2 : Inv X pins σ H1 { s1 with heap := s1.heap.push { cls := .type "dict_items", data := .fields #[.ref d] } } := I1.kept (t' := s1.toks) fun b ob q => Heap.get?_push_of_some _ q
  refine ⟨hdo.typeIs, hdo.mapOf.noDict, ?_⟩
  show wpAny _ _ (callWith cpos (.builtin "dict.items") [.ref d] [] []) _ X.xe s1
  refine method_meetsIn PySem.F.slot_dict_items PySem.F.entry_dict_items rfl (PySem.evalArgs_none ⟨rfl, hdo.typeIs, PySem.F.args_dict_items_1 _, _, meets_dict_items (mixKind X.prog X.w) d hs0, ⟨vs, hdo⟩, ?_⟩)
  refine Calls.spliced_nil ?_
  refine PySem.W.kdx_call (knd := mixKind X.prog X.w) (kvs := vs) (ep := ep) (I1.ok.hd hc) ⟨_, Heap.get?_push_size _ rfl, rfl, rfl⟩ (hat.push _) (by omega) fun h' tk acc c as hk hS hl hG hacc => ?_
  obtain ⟨H', k1, k2, k3, k4, k5, k6, J⟩ := LiI.items_laid (tk := tk) I2 hz kv hk hS hl hG hacc
  exact ⟨.ref _, H', J, rfl, q H' _ as k1 k2 k3 k4 k5 k6⟩
theorem items_rep {K : PySem.W.Frag} {G : Hp} : ∀ {kvs : List (Key × V)} {vs : List P} {ts : List Addr}, RepL K cl G vs (kvs.map (·.2)) → Paired (fun (t : Addr) (q : Key × V) => G t = some (.tup [kV q.1, q.2])) ts kvs →
    RepL K cl G (((kvs.map (·.1)).zip vs).map fun kv => .tup [ofKey kv.1, kv.2]) (ts.map V.ref)
  | [], vs, _, r, .nil => by
    have e : (([] : List (Key × V)).map (·.1)).zip vs = [] := rfl
    rw [e]; rfl
  | kv :: kvs, vs, _, r, .cons h t => by
    cases vs with
    | nil => cases (show (_ :: _ : List V) = [] from r)
    | cons p vs =>
      obtain ⟨v, rr, e, r1, r2⟩ := r
      cases e
      exact ⟨_, _, rfl, ⟨_, _, rfl, h, _, _, rfl, key_rep _, _, _, rfl, r1, rfl⟩, items_rep r2 t⟩
theorem e_items {e : Expr} {p apos cpos pos : Pos} {f : List (Option D) → Sto → Res D} (hc : X.calm = true) (hg : Gl X "list") (hm : X.mg "list" = none) (hb : plainBase e = true) (hline : (apos.endLine == cpos.line) = true) (he : PE X e (tE X cl W f)) :
    PE X (.Call (.Name "list" p) [.Call (.Attribute e "items" apos) [] [] cpos] [] pos) (tE X cl W fun ρ S => (f ρ S).bind fun d S => optR ((view S d).bind fun x => (prim1 .itemsL x).map .p) S) := by
  refine (pe_listItemsR hc he hg hm (by first | rfl | decide +kernel) (base_plain hb) hline).imp fun σ H Q ⟨ρ, S, μ, F, B, r, h⟩ => stepE B r h fun x H1 d S1 μ1 B1 f1 r1 rd h1 => ?_
  obtain ⟨d2, e2, h2⟩ := Sat.opt h1
  obtain ⟨q, e3, e4⟩ := Option.bind_eq_some_iff.mp e2
  obtain ⟨z, e5, rfl⟩ := Option.map_eq_some_iff.mp e4
  have v := view_vw B1 rd e3
  cases q <;> first | (cases e5; done) | skip
  obtain ⟨a, kvs, rfl, ha, hk, rl⟩ := v
  cases e5
  refine ⟨a, kvs, rfl, ha, fun H' lp ts keep hlp hts nin hl pr => ?_⟩
  obtain ⟨B2, f2⟩ := B1.grow keep
  have nl : ∀ b, H1 b = none → Gz F μ1 S1 H' b = H' b := fun b hb => gz_of (B1.noliv hb) (fun z => B1.hd b z hb)
  refine h2 _ μ1 H' B2 f2 ⟨lp, _, rfl, by rw [nl lp hlp]; exact hl, ?_⟩
  subst hk
  refine items_rep (RepL.mono f2.gle _ _ rl) ?_
  have go : ∀ {ts : List Addr} {kvs : List (Key × V)}, (∀ t ∈ ts, H1 t = none) → Paired (fun (t : Addr) (q : Key × V) => H' t = some (.tup [kV q.1, q.2])) ts kvs → Paired (fun (t : Addr) (q : Key × V) => Gz F μ1 S1 H' t = some (.tup [kV q.1, q.2])) ts kvs := by
    intro ts kvs hn p
    induction p with
    | nil => exact .nil
    | cons h t ih => exact .cons (by rw [nl _ (hn _ List.mem_cons_self)]; exact h) (ih fun t ht => hn t (List.mem_cons_of_mem _ ht))
  exact go hts pr
end
end PD
/-! Targets, what is walked, comprehensions. -/
namespace PD
open PySem L2 PySem.Spec PyProof.Rows
theorem _root_.L2.PI.imp {X : Cx} {tg e : Expr} {t t' : TI} (h : PI X tg e t) (q : ∀ σ H Q, t' σ H Q → t σ H Q) : PI X tg e t' := ⟨fun pins s σ H Q I w => h.run pins s σ H Q I (q σ H Q w)⟩
theorem _root_.L2.PG.imp {X : Cx} {e : Expr} {t t' : TG} (h : PG X e t) (q : ∀ v σ H Q, t' v σ H Q → t v σ H Q) : PG X e t' := ⟨fun pins s σ H v u Q I r w => h.run pins s σ H v u Q I r (q v σ H Q w)⟩
theorem _root_.L2.PGs.imp {X : Cx} {e : List Expr} {t t' : TGs} (h : PGs X e t) (q : ∀ v σ H Q, t' v σ H Q → t v σ H Q) : PGs X e t' := ⟨fun pins s σ H v u Q I r w => h.run pins s σ H v u Q I r (q v σ H Q w)⟩
theorem _root_.L2.PTs.imp {X : Cx} {e : List Expr} {t t' : TT} (h : PTs X e t) (q : ∀ σ H Q, t' σ H Q → t σ H Q) : PTs X e t' := ⟨fun pins s σ H Q I w => h.run pins s σ H Q I (q σ H Q w)⟩
theorem bind_inv {α β : Type} {r : Res α} {f : α → Sto → Res β} {b : β} {S : Sto} (h : r.bind f = .ok b S) : ∃ a S1, r = .ok a S1 ∧ f a S1 = .ok b S := by
  cases r with
  | ok a S1 => exact ⟨a, S1, rfl, h⟩
  | rse _ _ _ _ => cases h
  | bad => cases h
section
variable {K : PySem.W.Frag} {cl : Nat → Addr} {F μ : List Addr} {S : Sto} {H : Hp} {D : Addr}
theorem frz_ok {d : PD.D} {v : V} {p : P} {S1 : Sto} (B : Bears K cl F μ H S) (r : RepD K cl μ (Gz F μ S H) d v) (h : frz S d = .ok p S1) : Bears K cl F μ H S1 ∧ Fra μ S H μ S1 H ∧ Rep K cl (Gz F μ S1 H) p v := by
  cases d with
  | p x => cases h; exact ⟨B, Fra.refl, r⟩
  | box n =>
    obtain ⟨a, rfl, hn⟩ := r
    simp only [PD.frz] at h
    cases hs : S[n]? with
    | none => rw [hs] at h; cases h
    | some oo =>
      cases oo with
      | none => rw [hs] at h; cases h
      | some o =>
        rw [hs] at h
        dsimp only at h
        cases hc : cont o with
        | none => rw [hc] at h; cases h
        | some q =>
          rw [hc] at h
          cases h
          exact B.freeze hn hs hc
/-! ### a hidden thing -/
theorem Bears.hideNew {u : HO} (B : Bears K cl F μ H S) (hD : H D = none) : Bears K cl (D :: F) μ (upd H D u) S ∧ Fra μ S H μ S (upd H D u) ∧ Gle (Gz F μ S H) (Gz (D :: F) μ S (upd H D u)) := by
  have fr : Fra μ S H μ S (upd H D u) := ⟨List.prefix_refl _, fun a w h e => ⟨upd_keep hD a w e, h⟩, dom_of (upd_keep hD)⟩
  have gl : Gle (Gz F μ S H) (Gz (D :: F) μ S (upd H D u)) := Gle.of fun a w h => by
    obtain ⟨h1, h2, h3⟩ := gz_some h
    have hne : a ≠ D := fun e => by rw [e, hD] at h3; cases h3
    rw [gz_of h1 (by rw [List.mem_cons]; exact fun z => z.elim hne h2), upd_ne hne]
    exact h3
  have nm : ∀ (n : Nat) (a : Addr), μ[n]? = some a → a ≠ D := fun n a hn e => B.dom n a hn (e ▸ hD)
  refine ⟨⟨B.len, B.nd, fun n a o hn hs => (B.obj n a o hn hs).mono (List.prefix_refl _) gl fun w e => upd_keep hD a w e, fun n a hn => fr.dom a (B.dom n a hn), fun n a hn => by rw [List.mem_cons]; exact fun z => z.elim (nm n a hn) (B.nf n a hn), fun a z => ?_⟩, fr, gl⟩
  rcases List.mem_cons.mp z with z | z
  · rw [z, upd_same]; exact fun z => by cases z
  · exact fr.dom a (B.hd a z)
theorem Bears.hid {u : HO} (B : Bears K cl F μ H S) (hD : D ∈ F) : Bears K cl F μ (upd H D u) S ∧ Gz F μ S (upd H D u) = Gz F μ S H := by
  have eG : Gz F μ S (upd H D u) = Gz F μ S H := by
    funext a
    unfold Gz
    split
    · rfl
    · rename_i h
      rw [upd_ne (fun e => h (.inr (by rw [e]; exact hD)))]
  have nm : ∀ (n : Nat) (a : Addr), μ[n]? = some a → a ≠ D := fun n a hn e => B.nf n a hn (e ▸ hD)
  refine ⟨⟨B.len, B.nd, fun n a o hn hs => ?_, fun n a hn => by rw [upd_ne (nm n a hn)]; exact B.dom n a hn, B.nf, fun a z => ?_⟩, eG⟩
  · rw [eG]
    exact (B.obj n a o hn hs).mono (List.prefix_refl _) (Gle.refl _) fun w e => by rw [upd_ne (nm n a hn)]; exact e
  · by_cases e : a = D
    · rw [e, upd_same]; exact fun z => by cases z
    · rw [upd_ne e]; exact B.hd a z
theorem Bears.unhide (B : Bears K cl (D :: F) μ H S) : Bears K cl F μ H S ∧ Gle (Gz (D :: F) μ S H) (Gz F μ S H) := by
  have gl : Gle (Gz (D :: F) μ S H) (Gz F μ S H) := Gle.of fun a w h => by
    obtain ⟨h1, h2, h3⟩ := gz_some h
    rw [gz_of h1 (fun z => h2 (List.mem_cons_of_mem _ z))]
    exact h3
  exact ⟨⟨B.len, B.nd, fun n a o hn hs => (B.obj n a o hn hs).mono (List.prefix_refl _) gl fun w e => e, B.dom, fun n a hn z => B.nf n a hn (List.mem_cons_of_mem _ z), fun a z => B.hd a (List.mem_cons_of_mem _ z)⟩, gl⟩
theorem Bears.offhid (B : Bears K cl F μ H S) (hD : D ∈ F) : ¬ Liv μ S D := fun ⟨n, o, e, _⟩ => B.nf n D e hD
theorem Bears.adopt {o : O} (B : Bears K cl (D :: F) μ H S) (hF : D ∉ F) (q : ObjAt K cl μ (Gz (D :: F) μ S H) H D o) : Bears K cl F (μ ++ [D]) H (S ++ [some o]) := by
  have eG : Gz (D :: F) μ S H = Gz F (μ ++ [D]) (S ++ [some o]) H := gz_congr fun a => by
    have l : Liv (μ ++ [D]) (S ++ [some o]) a ↔ Liv μ S a ∨ a = D := by
      constructor
      · exact liv_app B.len
      · rintro (⟨n, x, e1, e2⟩ | e)
        · exact ⟨n, x, pre_get (List.prefix_append _ _) e1, pre_get (List.prefix_append _ _) e2⟩
        · subst e
          exact ⟨μ.length, o, by simp, by rw [B.len]; simp⟩
    rw [l, List.mem_cons]
    constructor
    · rintro (z | z | z)
      · exact .inl (.inl z)
      · exact .inl (.inr z)
      · exact .inr z
    · rintro ((z | z) | z)
      · exact .inl z
      · exact .inr (.inl z)
      · exact .inr (.inr z)
  have nm : ∀ (n : Nat) (a : Addr), μ[n]? = some a → a ≠ D := fun n a hn e => B.nf n a hn (e ▸ List.mem_cons_self)
  refine ⟨by simp [B.len], ?_, fun n a x hn hx => ?_, fun n a hn => ?_, fun n a hn => ?_, fun a z => B.hd a (List.mem_cons_of_mem _ z)⟩
  · rw [List.nodup_append]
    refine ⟨B.nd, by simp, fun x hx y hy => ?_⟩
    simp at hy
    subst hy
    obtain ⟨n, hn⟩ := List.mem_iff_getElem?.mp hx
    exact nm n x hn
  · by_cases c : n < μ.length
    · rw [List.getElem?_append_left c] at hn
      rw [List.getElem?_append_left (by rw [← B.len]; exact c)] at hx
      rw [← eG]
      exact (B.obj n a x hn hx).mono (List.prefix_append _ _) (Gle.refl _) fun _ e => e
    · rw [List.getElem?_append_right (by omega)] at hn
      rw [List.getElem?_append_right (by have := B.len; omega)] at hx
      have e1 := (List.getElem?_eq_some_iff.mp hn).2
      have e2 := (List.getElem?_eq_some_iff.mp hx).2
      simp at e1 e2
      subst e1; subst e2
      rw [← eG]
      exact q.mono (List.prefix_append _ _) (Gle.refl _) fun _ e => e
  · by_cases c : n < μ.length
    · rw [List.getElem?_append_left c] at hn
      exact B.dom n a hn
    · rw [List.getElem?_append_right (by omega)] at hn
      have e1 := (List.getElem?_eq_some_iff.mp hn).2
      simp at e1
      subst e1
      exact B.hd _ List.mem_cons_self
  · by_cases c : n < μ.length
    · rw [List.getElem?_append_left c] at hn
      exact fun z => B.nf n a hn (List.mem_cons_of_mem _ z)
    · rw [List.getElem?_append_right (by omega)] at hn
      have e1 := (List.getElem?_eq_some_iff.mp hn).2
      simp at e1
      subst e1
      exact hF
end
/-! ### what is walked -/
/-- J walks these items, as long as what may be read now may be read -/
def Wk (K : PySem.W.Frag) (cl : Nat → Addr) (G0 : Hp) (items : List P) (J : It) : Prop := ∀ i F μ S H, Bears K cl F μ H S → Gle G0 (Gz F μ S H) →
  (items.length ≤ i → J.stop i H) ∧ ∀ p, items[i]? = some p → J.go i H ∧ ∀ x H', J.yld i H x H' → Bears K cl F μ H' S ∧ Fra μ S H μ S H' ∧ Rep K cl (Gz F μ S H') p x
abbrev RJ (K : PySem.W.Frag) (cl : Nat → Addr) : List Addr → Hp → List P → It → Prop := fun _ G items J => Wk K cl G items J
def tI (X : Cx) (cl : Nat → Addr) (W : WX) (f : List (Option D) → Sto → Res (List P)) : TI := fun σ H R => ∃ ρ S μ F, Bears X.K cl F μ H S ∧ RepS X.K cl μ (Gz F μ S H) σ ρ ∧ Sat X.K cl F μ S H (RJ X.K cl) (f ρ S) (WS W σ) R
theorem wk_list {K : PySem.W.Frag} {cl : Nat → Addr} {G0 : Hp} {a : Addr} {items : List P} {xs : List V} (h : SqL K G0 a xs) (r : RepL K cl G0 items xs) : Wk K cl G0 items (Itl K a) := fun i F μ S H B g => by
  have hq : SqL K H a xs := (g.trans gz_gle).sqL h
  refine ⟨fun hi => ⟨xs, hq, by rw [← r.len]; exact hi⟩, fun p hp => ?_⟩
  obtain ⟨v, hv, rv⟩ := r.get hp
  refine ⟨⟨xs, v, hq, hv⟩, fun x H' y => ?_⟩
  obtain ⟨e, y⟩ := y
  subst e
  have e2 := y xs hq
  rw [hv] at e2
  cases e2
  exact ⟨B, Fra.refl, Rep.mono g _ _ rv⟩
theorem wk_tup {K : PySem.W.Frag} {cl : Nat → Addr} {G0 : Hp} {a : Addr} {items : List P} {xs : List V} (h : SqT K G0 a xs) (r : RepL K cl G0 items xs) : Wk K cl G0 items (Itt K a) := fun i F μ S H B g => by
  have hq : SqT K H a xs := (g.trans gz_gle).sqT h
  refine ⟨fun hi => ⟨xs, hq, by rw [← r.len]; exact hi⟩, fun p hp => ?_⟩
  obtain ⟨v, hv, rv⟩ := r.get hp
  refine ⟨⟨xs, v, hq, hv⟩, fun x H' y => ?_⟩
  obtain ⟨e, y⟩ := y
  subst e
  have e2 := y xs hq
  rw [hv] at e2
  cases e2
  exact ⟨B, Fra.refl, Rep.mono g _ _ rv⟩
theorem wk_rng {K : PySem.W.Frag} {cl : Nat → Addr} {G0 : Hp} {lo hi : Int} : Wk K cl G0 (rng lo hi) (Itr lo (hi - lo).toNat) := fun i F μ S H B g => by
  refine ⟨fun h => by simpa [rng, Itr] using h, fun p hp => ?_⟩
  have hlt : i < (hi - lo).toNat := by
    have := (List.getElem?_eq_some_iff.mp hp).1
    simpa [rng] using this
  refine ⟨hlt, fun x H' y => ?_⟩
  obtain ⟨e, y⟩ := y
  subst e; subst y
  have e2 : p = .int (lo + (i : Int)) := by
    have := (List.getElem?_eq_some_iff.mp hp).2
    simpa [rng] using this.symm
  subst e2
  exact ⟨B, Fra.refl, rfl⟩
section
variable {X : Cx} {cl : Nat → Addr} {W : WX} {tg : Expr}
def iSeq (K : PySem.W.Frag) (tl : TE) : TI := fun σ H R => tl σ H fun x H1 => ∃ a, x = .ref a ∧ (((∃ xs, SqL K H1 a xs) ∧ R (Itl K a) H1) ∨ ((∃ xs, SqT K H1 a xs) ∧ R (Itt K a) H1))
theorem pi_seq {l : Expr} {tl : TE} (hl : PE X l tl) : PI X tg l (iSeq X.K tl) := by
  refine ⟨fun pins s σ H R I h => ?_⟩
  refine thn (hl.run pins s σ H _ I h) fun v s1 ⟨x, H1, I1, r1, q1⟩ => ?_
  obtain ⟨a, e, ⟨⟨xs, hq⟩, q⟩ | ⟨⟨xs, hq⟩, q⟩⟩ := q1
  · subst e
    cases r1
    obtain ⟨its, rv, p, hz⟩ := I1.list hq
    refine wpAny_pyIter_list p.isList ?_
    refine ⟨s1.heap.objs.size, [s1.heap.objs.size], _, _, H1, rfl, I1.kept (t' := s1.toks) fun b o e => Heap.get?_push_of_some _ e, turn_list a _, ⟨_, Heap.get?_push_size _ rfl, rfl, rfl⟩, fun b hb => ?_, q⟩
    have e : b = s1.heap.objs.size := by simpa using hb
    subst e
    exact I1.fpOk (Nat.le_refl _) (I1.hok.fresh (Nat.le_refl _))
  · subst e
    cases r1
    obtain ⟨its, rv, p, hz⟩ := I1.tuple hq
    refine wpAny_pyIter_tuple (show s1.heap.IsTuple a its.toArray from p) ?_
    refine ⟨s1.heap.objs.size, [s1.heap.objs.size], _, _, H1, rfl, I1.kept (t' := s1.toks) fun b o e => Heap.get?_push_of_some _ e, turn_tuple a _, ⟨_, Heap.get?_push_size _ rfl, rfl, rfl⟩, fun b hb => ?_, q⟩
    have e : b = s1.heap.objs.size := by simpa using hb
    subst e
    exact I1.fpOk (Nat.le_refl _) (I1.hok.fresh (Nat.le_refl _))
theorem s_seq {e : Expr} {f : List (Option D) → Sto → Res D} (he : PE X e (tE X cl W f)) : PI X tg e (tI X cl W fun ρ S => (f ρ S).bind fun d S => (frz S d).bind fun x S => match x with
    | .lst l => .ok l S
    | .tup l => .ok l S
    | .fls l => .ok l S
    | .ktup l => .ok l S
    | _ => .bad) := by
  refine (pi_seq he).imp fun σ H R ⟨ρ, S, μ, F, B, r, h⟩ => stepE B r h fun x H1 d S1 μ1 B1 f1 r1 rd h1 => ?_
  obtain ⟨p, S2, e1, l1, B2, f2, q1, h2⟩ := Sat.frz B1 rd h1
  cases p <;> first | exact h2.elim | skip
  · obtain ⟨a, xs, rfl, ha, rl⟩ := q1
    exact ⟨a, rfl, .inr ⟨⟨xs, .inl (.inl (gz_gle.ex a (.tup xs) trivial ha))⟩, h2 _ μ1 H1 B2 Fra.refl (wk_tup (.inl (.inl ha)) rl)⟩⟩
  · obtain ⟨a, xs, rfl, ha, rl⟩ := q1
    exact ⟨a, rfl, .inl ⟨⟨xs, .inl (.inl (gz_gle.ex a (.lst xs) trivial ha))⟩, h2 _ μ1 H1 B2 Fra.refl (wk_list (.inl (.inl ha)) rl)⟩⟩
  · obtain ⟨a, xs, rfl, ha, rl⟩ := q1
    exact ⟨a, rfl, .inr ⟨⟨xs, gz_gle.sqT ha⟩, h2 _ μ1 H1 B2 Fra.refl (wk_tup ha rl)⟩⟩
  · obtain ⟨a, xs, rfl, ha, rl⟩ := q1
    exact ⟨a, rfl, .inl ⟨⟨xs, gz_gle.sqL ha⟩, h2 _ μ1 H1 B2 Fra.refl (wk_list ha rl)⟩⟩
theorem small_of {i : Int} (h : small62 i = true) : -(2 ^ 62) ≤ i ∧ i < 2 ^ 62 := by
  unfold small62 at h
  simpa using h
theorem s_rng1 {e : Expr} {p pos : Pos} {f : List (Option D) → Sto → Res D} (hg : Gl X "range") (hm : X.mg "range" = none) (hs : noStar e = true) (he : PE X e (tE X cl W f)) : PI X tg (.Call (.Name "range" p) [e] [] pos) (tI X cl W fun ρ S => (f ρ S).bind fun d S => match d with
    | .p (.int i) => if small62 i then .ok (rng 0 i) S else .bad
    | _ => .bad) := by
  refine (pi_range1 hg hm (pa_cons he pa_nil (star_cons hs)) (star_cons hs)).imp fun σ H R ⟨ρ, S, μ, F, B, r, h⟩ => stepE B r h fun x H1 d S1 μ1 B1 f1 r1 rd h1 => ?_
  cases d with
  | box n => exact h1.elim
  | p y =>
    cases y <;> first | exact h1.elim | skip
    rename_i i
    dsimp only at h1
    split at h1
    · rename_i hb
      obtain ⟨h3, h4⟩ := small_of hb
      have := h1 (Itr 0 (i - 0).toNat) μ1 H1 B1 Fra.refl wk_rng
      exact ⟨i, by rw [show x = V.int i from rd], h3, h4, by simpa using this⟩
    · exact h1.elim
theorem s_rng2 {a b : Expr} {p pos : Pos} {f g : List (Option D) → Sto → Res D} (hg : Gl X "range") (hm : X.mg "range" = none) (hs1 : noStar a = true) (hs2 : noStar b = true) (ha : PE X a (tE X cl W f)) (hb : PE X b (tE X cl W g)) : PI X tg (.Call (.Name "range" p) [a, b] [] pos) (tI X cl W fun ρ S => (f ρ S).bind fun d S => (g ρ S).bind fun e S => match d, e with
    | .p (.int i), .p (.int j) => if small62 i && small62 j then .ok (rng i j) S else .bad
    | _, _ => .bad) := by
  refine (pi_range2 hg hm (pa_cons ha (pa_cons hb pa_nil (star_cons hs2)) (star_cons hs1)) (by rw [star_cons hs1, star_cons hs2]; rfl) (star_cons hs2)).imp fun σ H R ⟨ρ, S, μ, F, B, r, h⟩ => stepE B r h fun x H1 d S1 μ1 B1 f1 r1 rd h1 => stepE B1 r1 h1 fun y H2 e S2 μ2 B2 f2 r2 re h2 => ?_
  split at h2
  · split at h2
    · rename_i hb
      rw [Bool.and_eq_true] at hb
      obtain ⟨h3, h4⟩ := small_of hb.1
      obtain ⟨h5, h6⟩ := small_of hb.2
      exact ⟨_, _, by rw [show x = V.int _ from rd, show y = V.int _ from re], ⟨h3, h4, h5, h6⟩, h2 _ μ2 H2 B2 Fra.refl wk_rng⟩
    · exact h2.elim
  · exact h2.elim
end
end PD
/-! Targets, comprehensions. -/
namespace PD
open PySem L2 PySem.Spec PyProof.Rows
def setV (σ : L2.St) : List Nat → List V → L2.St
  | i :: is, x :: xs => setV (σ.set i (some x)) is xs
  | _, _ => σ
def Tg.names : Tg → List Nat
  | .nm i => [i]
  | .tp l => l
def gAll (is : List Nat) : TGs := fun vs σ H Q => vs.length = is.length ∧ Q (setV σ is vs) H
/-- a target's reading -/
def gT (K : PySem.W.Frag) : Tg → TG
  | .nm i => fun v σ H Q => Q (σ.set i (some v)) H
  | .tp is => fun v σ H Q => ∃ a xs, v = .ref a ∧ (SqT K H a xs ∨ SqL K H a xs) ∧ xs.length = is.length ∧ Q (setV σ is xs) H
/-- a local name at its place -/
def NameAt (X : Cx) (e : Expr) (i : Nat) : Prop := ∃ x pos, e = .Name x pos ∧ X.N[i]? = some x ∧ Loc X.env.scope x ∧ (X.fn x = true ∨ X.env.scope.names.lookup x = some .local)
section
variable {prog : Program} {w : World} {A : Around} {E : Value → Shared → Prop} {s : Shared}
theorem draw_list {it t : Addr} {items : Array Value} (hne : t ≠ it) : ∀ (n i : Nat) (s : Shared) (Q : List Value → Shared → Prop), s.heap.IsListIter it t i → s.heap.IsList t items → i + n ≤ items.size →
    (∀ h', h'.IsListIter it t (i + n) → Heap.SameBut it s.heap h' → Q ((items.toList.drop i).take n) { s with heap := h' }) → wpAny (model prog w) A (draw (.ref it) n) Q E s
  | 0, i, s, Q, hit, _, _, hQ => by
    show wpAny _ _ (pure []) Q E s
    exact wpAny_pure (by simpa using hQ s.heap hit (Heap.SameBut.refl ..))
  | n + 1, i, s, Q, hit, ht, hle, hQ => by
    have hlt : i < items.size := by omega
    show wpAny _ _ (pyNext (.ref it) >>= _) Q E s
    refine wpAny_bind (wpAny_pyNext_list_item hit ht (x := items[i]) (by simp [hlt]) fun h₁ hit₁ hs₁ => ?_)
    refine wpAny_bind (wpAny_holding (draw_list hne n (i + 1) _ _ hit₁ (ht.at fun o e => (hs₁.2 t hne).trans e) (by omega) fun h₂ hit₂ hs₂ => wpAny_pure ?_))
    have hd : items.toList.drop i = items[i] :: items.toList.drop (i + 1) := by simp [List.drop_eq_getElem_cons, hlt]
    have := hQ h₂ (by rw [show i + (n + 1) = i + 1 + n by omega]; exact hit₂) (hs₁.trans hs₂)
    rw [hd, List.take_succ_cons] at this
    exact this
theorem unpackItems_list {t : Addr} {items : Array Value} {Q : List Value → Shared → Prop} (hh : A.handled = none) (ht : s.heap.IsList t items)
    (hQ : ∀ h', Heap.ExtBut s.heap.objs.size s.heap h' → Q items.toList { s with heap := h' }) : wpAny (model prog w) A (unpackItems (.ref t) items.size none) Q E s := by
  have hlt : t ≠ s.heap.objs.size := by obtain ⟨o, ho, _⟩ := ht; exact Nat.ne_of_lt (Heap.lt_size ho)
  unfold unpackItems
  refine wpAny_bind ?_
  · unfold notIterableAtAll
    refine wpAny_bind (wpAny_specialOf ht.typeIs slot_list_iter.lookup ?_)
    refine wpAny_pure ?_
    simp only [Bool.false_eq_true, if_false]
    refine wpAny_bind (wpAny_holding (wpAny_pyIter_list ht ?_))
    refine wpAny_bind (wpAny_holding (draw_list hlt items.size 0 _ _ ⟨_, Heap.get?_push_size _ rfl, rfl, rfl⟩ (ht.at fun o e => Heap.get?_push_of_some _ e) (by omega) fun h₁ hit₁ hs₁ => ?_))
    have hall : List.take items.size (List.drop 0 items.toList) = items.toList := by
      rw [List.drop_zero]; exact List.take_of_length_le (by simp)
    rw [hall]
    rw [if_neg (by simp)]
    have ht₁ : h₁.IsList t items := (ht.at fun o e => Heap.get?_push_of_some _ e).at fun o e => (hs₁.2 t hlt).trans e
    refine wpAny_bind (wpAny_holding (wpAny_pyNext_list_end hh hit₁ ht₁ (by simp) fun h₂ he₂ => ?_))
    simp only [Option.isSome_none, Bool.false_eq_true, if_false]
    refine wpAny_pure (hQ h₂ fun b o hb e => he₂ b o hb (hs₁.extBut b o hb (Heap.get?_push_of_some _ e)))
theorem assign_Tuple_list {env : Env} {elts : List Expr} {x1} {pos : Pos} {t : Addr} {items : Array Value} {Q : Unit → Shared → Prop} (hh : A.handled = none) (ht : s.heap.IsList t items)
    (hn : (assignEach elts env).length = items.size) (hstar : (assignEach elts env).findIdx? (·.1) = none)
    (h : ∀ h', Heap.ExtBut s.heap.objs.size s.heap h' → wpAny (model prog w) A (assignInOrder ((assignEach elts env).map (·.2)) items.toList) Q E { s with heap := h' }) :
    wpAny (model prog w) A (assign (.Tuple elts x1 pos) env (.ref t)) Q E s := by
  rw [assign_Tuple]
  refine wpAny_bind (wpAny_standAt ?_)
  unfold unpack
  rw [hn, hstar]
  exact wpAny_bind (wpAny_holding (unpackItems_list hh ht h))
end
section
variable {X : Cx}
theorem pgs_names (hN : X.N.Nodup) : ∀ {es : List Expr} {is : List Nat}, Paired (NameAt X) es is → PGs X es (gAll is)
  | _, _, .nil => pgs_nil.imp fun vs σ H Q ⟨h1, h2⟩ => by
    have : vs = [] := List.length_eq_zero_iff.mp h1
    subst this
    exact ⟨rfl, h2⟩
  | _, _, .cons ⟨x, pos, e, h1, h2, h3⟩ t => by
    subst e
    refine (pgs_cons (pg_name hN h1 h2 h3) (pgs_names hN t) rfl).imp fun vs σ H Q ⟨k1, k2⟩ => ?_
    cases vs with
    | nil => cases k1
    | cons v vs => exact ⟨v, vs, rfl, by simpa using k1, k2⟩
theorem each_names : ∀ {es : List Expr} {is : List Nat}, Paired (NameAt X) es is → (assignEach es X.env).length = is.length ∧ (assignEach es X.env).findIdx? (·.1) = none
  | _, _, .nil => ⟨rfl, rfl⟩
  | _, _, .cons ⟨x, pos, e, _⟩ t => by
    subst e
    obtain ⟨h1, h2⟩ := each_names t
    refine ⟨?_, ?_⟩
    · show (assignEach _ X.env).length + 1 = _
      rw [h1]
      rfl
    · show List.findIdx? (·.1) ((false, _) :: assignEach _ X.env) = none
      rw [List.findIdx?_cons]
      simp only [Bool.false_eq_true, if_false, h2]
      rfl
theorem pg_names {es : List Expr} {is : List Nat} {k : Nat} {pos : Pos} (hc : X.calm = true) (hN : X.N.Nodup) (h : Paired (NameAt X) es is) : PG X (.Tuple es k pos) (gT X.K (.tp is)) := by
  obtain ⟨h1, h2⟩ := each_names h
  refine ⟨fun pins s σ H v u Q I r hw => ?_⟩
  obtain ⟨a, xs, e1, hq | hq, hl, hw⟩ := hw
  · exact (pg_tup hc (pgs_names hN h) h1 h2).run pins s σ H v u Q I r ⟨a, xs, e1, hq, hl, hl, hw⟩
  · subst e1
    cases r
    obtain ⟨its, rv, ht, hz⟩ := I.list hq
    refine assign_Tuple_list (I.ok.hd hc) ht.isList (by simp [h1, ← hl, rv.length]) h2 fun h' hx => ?_
    have I1 : Inv X pins σ H { s with heap := h' } := I.kept (t' := s.toks) fun b o e => hx b o (Nat.ne_of_lt (Heap.lt_size e)) e
    exact (pgs_names hN h).run pins _ σ H xs _ Q I1 (by simpa using rv) ⟨hl, hw⟩
theorem pg_nm {i : Nat} {x : Str} {pos : Pos} (hN : X.N.Nodup) (hi : X.N[i]? = some x) (hx : Loc X.env.scope x) (hf : X.fn x = true ∨ X.env.scope.names.lookup x = some .local) : PG X (.Name x pos) (gT X.K (.nm i)) := pg_name hN hi hx hf
end
section
variable {K : PySem.W.Frag} {cl : Nat → Addr} {μ : List Addr} {G H : Hp} {σ : L2.St} {ρ : List (Option D)}
theorem setAll_rep : ∀ {is : List Nat} {ps : List P} {xs : List V} {σ : L2.St} {ρ ρ' : List (Option D)}, RepS K cl μ G σ ρ → RepL K cl G ps xs → setAll ρ is ps = some ρ' → xs.length = is.length ∧ RepS K cl μ G (setV σ is xs) ρ'
  | [], [], xs, σ, ρ, ρ', r, rl, h => by
    cases h
    rw [show xs = [] from rl]
    exact ⟨rfl, r⟩
  | i :: is, p :: ps, xs, σ, ρ, ρ', r, ⟨v, t, e, r1, r2⟩, h => by
    subst e
    obtain ⟨h1, h2⟩ := setAll_rep (r.set (d := .p p) r1) r2 h
    exact ⟨by simp [h1], h2⟩
  | [], _ :: _, _, _, _, _, _, _, h => by cases h
  | _ :: _, [], _, _, _, _, _, _, h => by cases h
theorem setTg_rep {t : Tg} {p : P} {v : V} {ρ' : List (Option D)} {Q : L2.St → Hp → Prop} (r : RepS K cl μ G σ ρ) (rp : Rep K cl G p v) (g : Gle G H) (h : setTg t p ρ = some ρ') (q : ∀ σ', RepS K cl μ G σ' ρ' → (∀ vs : List Nat, (∀ i ∈ t.names, i ∈ vs) → wipe σ' vs = wipe σ vs) → Q σ' H) : gT K t v σ H Q := by
  have wset : ∀ (i : Nat) (x : Option V) (σ : L2.St) (vs : List Nat), i ∈ vs → wipe (σ.set i x) vs = wipe σ vs := by
    intro i x σ vs
    induction vs with
    | nil => intro h; cases h
    | cons v vs ih =>
      intro h
      unfold wipe
      by_cases e : i = v
      · subst e
        by_cases hi : i ∈ vs
        · rw [ih hi]
        · have : ∀ (σ : L2.St) (vs : List Nat), i ∉ vs → wipe (σ.set i x) vs = (wipe σ vs).set i x := by
            intro σ vs
            induction vs with
            | nil => intro _; rfl
            | cons w ws ih2 =>
              intro hn
              rw [List.mem_cons, not_or] at hn
              show (wipe (σ.set i x) ws).set w none = ((wipe σ ws).set w none).set i x
              rw [ih2 hn.2, List.set_comm _ _ hn.1]
          rw [this σ vs hi, List.set_set]
      · rcases List.mem_cons.mp h with h | h
        · exact absurd h e
        · rw [ih h]
  have thisA : ∀ (vs : List Nat) (is : List Nat) (xs : List V) (σ : L2.St), (∀ i ∈ is, i ∈ vs) → wipe (setV σ is xs) vs = wipe σ vs := by
    intro vs is
    induction is with
    | nil => intro xs σ _; cases xs <;> rfl
    | cons i is ih =>
      intro xs σ h
      cases xs with
      | nil => rfl
      | cons x xs =>
        show wipe (setV (σ.set i (some x)) is xs) vs = _
        rw [ih xs _ fun j hj => h j (List.mem_cons_of_mem _ hj), wset i _ σ vs (h i List.mem_cons_self)]
  cases t with
  | nm i =>
    cases h
    refine q _ (r.set (d := .p p) rp) fun vs hv => wset i _ σ vs (hv i (by simp [Tg.names]))
  | tp is =>
    cases p <;> first | (cases h; done) | skip
    all_goals obtain ⟨a, xs, rfl, ha, rl⟩ := rp
    all_goals obtain ⟨h1, h2⟩ := setAll_rep r rl h
    rotate_left
    · refine ⟨a, xs, rfl, .inr (.inl (.inl (g.ex a (.lst xs) trivial ha))), h1, q _ h2 fun vs hv => ?_⟩
      exact thisA vs is xs σ hv
    refine ⟨a, xs, rfl, .inl (.inl (.inl (g.ex a (.tup xs) trivial ha))), h1, q _ h2 fun vs hv => ?_⟩
    exact thisA vs is xs σ hv
theorem RepS.wipe (r : RepS K cl μ G σ ρ) : ∀ vs : List Nat, RepS K cl μ G (L2.wipe σ vs) (wipeR ρ vs)
  | [] => r
  | v :: vs => (RepS.wipe r vs).forget
theorem wipe_twice (σ : L2.St) (vs : List Nat) : wipe (wipe σ vs) vs = wipe σ vs := by
  apply List.ext_getElem?
  intro i
  by_cases hi : i ∈ vs
  · have : ∀ (τ : L2.St) (ws : List Nat), i ∈ ws → (wipe τ ws)[i]? = if i < τ.length then some none else none := by
      intro τ ws
      induction ws with
      | nil => intro h; cases h
      | cons w ws ih =>
        intro h
        show ((wipe τ ws).set w none)[i]? = _
        by_cases e : w = i
        · subst e
          rw [List.getElem?_set]
          simp [wipe_length]
        · rw [List.getElem?_set_ne e]
          exact ih ((List.mem_cons.mp h).resolve_left fun z => e z.symm)
    rw [this _ _ hi, this _ _ hi, wipe_length]
  · rw [wipe_out hi]
end
/-! ### list comprehensions -/
def WN : WX := fun _ _ _ _ => False
section
variable {X : Cx} {cl : Nat → Addr} {W : WX}
theorem calm_inv {α : Type} {K : PySem.W.Frag} {F μ : List Addr} {S : Sto} {H : Hp} {W : XK} {r : Res α} {β γ : Type} {R : List Addr → Hp → β → γ → Prop} {g : α → Sto → Res β} {Q : γ → Hp → Prop} (h : Sat K cl F μ S H R ((calm r).bind g) W Q) : ∃ a S', r = .ok a S' ∧ Sat K cl F μ S H R (g a S') W Q := by
  cases r with
  | ok a S' => exact ⟨a, S', rfl, h⟩
  | rse _ _ _ _ => exact h.elim
  | bad => exact h.elim
/-- a result that is known -/
theorem sat_ok {K : PySem.W.Frag} {F μ : List Addr} {S S' : Sto} {H : Hp} {W : XK} {α β : Type} {R : List Addr → Hp → α → β → Prop} {r : Res α} {a : α} {Q : β → Hp → Prop} (e : r = .ok a S') (h : ∀ b μ' H', Bears K cl F μ' H' S' → Fra μ S H μ' S' H' → R μ' (Gz F μ' S' H') a b → Q b H') : Sat K cl F μ S H R r W Q := by
  rw [e]
  exact h
theorem lc_imp {bx : Bool} {own : List (Str × Nat)} {tg : Tg} {fs : List (Option D) → Sto → Res (List P)} {fc : List (Option D) → Sto → Res Bool} {fe : List (Option D) → Sto → Res D}
    (hv : ∀ i ∈ tg.names, i ∈ own.map (·.2)) {σ : L2.St} {H : Hp} {Q : VK} (hw : tE X cl W (fun ρ S => (fs ρ S).bind fun items S => (calm (turns (stepL (own.map (·.2)) tg fc fe ρ) items [] S)).bind fun l S => boxIf bx (.lst l) S) σ H Q) :
    tLc (tI X cl W fs) (gT X.K tg) (tT X cl WN fc) (tE X cl WN fe) (own.map (·.2)) σ H Q := by
  obtain ⟨ρ, S, μ, F, B, r, h⟩ := hw
  refine ⟨ρ, S, μ, F, B, r, Sat.mono (Sat.bind h) fun J H1 ⟨items, S1, μ1, B1, f1, wk, h1⟩ D hD => ?_⟩
  have r1 := r.mono f1.pre f1.gle (cl := cl)
  obtain ⟨l, Sf, hl, h1⟩ := calm_inv h1
  obtain ⟨B2, f2, g2⟩ := B1.hideNew (u := .lst []) hD
  have hDF : D ∉ F := fun z => B1.hd D z hD
  have fup : ∀ {μ' : List Addr} {S' : Sto} {H' : Hp} {u : HO}, Fra μ1 S1 H1 μ' S' H' → Fra μ1 S1 H1 μ' S' (upd H' D u) := fun f => ⟨f.pre, fun a u h e => ⟨by rw [upd_ne (ne_of_none e hD)]; exact (f.keep a u h e).1, (f.keep a u h e).2⟩, fun a h => by
    rw [upd_ne (fun e => h (by rw [e]; exact hD))]
    exact f.dom a h⟩
  refine ⟨fun i m H => m = items.length - i ∧ i ≤ items.length ∧ ∃ acc vs S μ, H D = some (.lst vs) ∧ Bears X.K cl (D :: F) μ H S ∧ Fra μ1 S1 H1 μ S H ∧ Gle (Gz F μ1 S1 H1) (Gz (D :: F) μ S H) ∧ RepL X.K cl (Gz (D :: F) μ S H) acc vs ∧
    turns (stepL (own.map (·.2)) tg fc fe ρ) (items.drop i) acc S = .ok l Sf, ⟨items.length, by simp, Nat.zero_le _, [], [], S1, μ1, upd_same, B2, f2, g2, rfl, hl⟩, ?_⟩
  rintro i m H2 ⟨rfl, hle, acc, vs, S2, μ2, hD2, B3, f3, g3, ra, ht2⟩
  obtain ⟨wstop, wgo⟩ := wk i (D :: F) μ2 S2 H2 B3 g3
  by_cases hlt : i < items.length
  · right
    obtain ⟨go, yl⟩ := wgo items[i] (by simp [hlt])
    have hdr : items.drop i = items[i] :: items.drop (i + 1) := (List.getElem_cons_drop hlt).symm
    rw [hdr] at ht2
    obtain ⟨y, S3, hstep, ht3⟩ := bind_inv ht2
    -- what the turn is to reach
    refine ⟨go, fun H' => ∃ acc vs S μ, H' D = some (.lst vs) ∧ Bears X.K cl (D :: F) μ H' S ∧ Fra μ1 S1 H1 μ S H' ∧ Gle (Gz F μ1 S1 H1) (Gz (D :: F) μ S H') ∧ RepL X.K cl (Gz (D :: F) μ S H') acc vs ∧ turns (stepL (own.map (·.2)) tg fc fe ρ) (items.drop (i + 1)) acc S = .ok l Sf,
      fun H' z => ⟨items.length - (i + 1), by omega, rfl, hlt, z⟩, fun x H' yy => ?_⟩
    obtain ⟨B4, f4, rp⟩ := yl x H' yy
    have f34 := f3.trans f4
    have g4 : Gle (Gz F μ1 S1 H1) (Gz (D :: F) μ2 S2 H') := g3.trans f4.gle
    have rs : RepS X.K cl μ2 (Gz (D :: F) μ2 S2 H') (wipe σ (own.map (·.2))) (wipeR ρ (own.map (·.2))) := (r1.mono f34.pre g4 (cl := cl)).wipe _
    have hDk : ∀ {μ' : List Addr} {S' : Sto} {H'' : Hp}, Fra μ2 S2 H2 μ' S' H'' → H'' D = some (.lst vs) := fun f => (f.keep D _ (B3.offhid List.mem_cons_self) hD2).1
    unfold stepL at hstep
    cases hst : setTg tg items[i] (wipeR ρ (own.map (·.2))) with
    | none => rw [hst] at hstep; cases hstep
    | some ρ' =>
      rw [hst] at hstep
      dsimp only at hstep
      obtain ⟨t, S4, hc1, hstep⟩ := bind_inv hstep
      refine setTg_rep rs rp gz_gle hst fun σ' rs' hw => ⟨by rw [hw _ hv, wipe_twice], ⟨ρ', S2, μ2, D :: F, B4, rs', sat_ok hc1 fun b μ4 H4 B5 f5 e5 => ?_⟩⟩
      obtain rfl : t = b := e5
      have f35 := f34.trans f5
      have g5 := g4.trans f5.gle
      cases t with
      | false =>
        simp only [Bool.false_eq_true, if_false] at hstep ⊢
        cases hstep
        exact ⟨acc, vs, S3, μ4, hDk (f4.trans f5), B5, f35, g5, RepL.mono (f4.trans f5).gle _ _ ra, ht3⟩
      | true =>
        simp only [if_true] at hstep ⊢
        obtain ⟨d, S5, he1, hstep⟩ := bind_inv hstep
        obtain ⟨p, S6, hf1, hstep⟩ := bind_inv hstep
        cases hstep
        dsimp only at ht3
        refine ⟨ρ', S4, μ4, D :: F, B5, rs'.mono f5.pre f5.gle, sat_ok he1 fun v μ5 H5 B6 f6 rv => ?_⟩
        obtain ⟨B7, f7, rp7⟩ := frz_ok B6 rv hf1
        have f47 := (f4.trans f5).trans (f6.trans f7)
        have rl := RepL.app (RepL.mono f47.gle _ _ ra) (RepL.one rp7)
        split at ht3
        · rename_i hz
          obtain ⟨B8, eG⟩ := B7.hid (u := .lst (vs ++ [v])) List.mem_cons_self
          have gl : Gle (Gz F μ1 S1 H1) (Gz (D :: F) μ5 S3 H5) := g5.trans (f6.trans f7).gle
          exact ⟨vs, hDk f47, by rw [← ra.len]; exact hz, acc ++ [p], vs ++ [v], S3, μ5, upd_same, B8, fup (f35.trans (f6.trans f7)), by rw [eG]; exact gl, by rw [eG]; exact rl, ht3⟩
        · cases ht3
  · left
    have e : i = items.length := by omega
    subst e
    rw [List.drop_length] at ht2
    cases ht2
    refine ⟨wstop (Nat.le_refl _), ?_⟩
    cases bx with
    | false =>
      obtain ⟨B4, g4⟩ := B3.unhide
      refine h1 (.ref D) μ2 H2 B4 f3 ⟨D, vs, rfl, ?_, RepL.mono g4 _ _ ra⟩
      rw [gz_of (B3.offhid List.mem_cons_self) hDF]
      exact hD2
    | true =>
      have B4 := B3.adopt (o := .lst l) hDF ⟨vs, hD2, ra⟩
      refine h1 (.ref D) (μ2 ++ [D]) H2 B4 ⟨List.IsPrefix.trans f3.pre (List.prefix_append _ _), fun a u h e => ⟨(f3.keep a u h e).1, fun z => ?_⟩, f3.dom⟩ ⟨D, rfl, by rw [← B3.len]; simp⟩
      rcases liv_app B3.len z with z | z
      · exact (f3.keep a u h e).2 z
      · rw [z, hD] at e; cases e
/-! ### dict comprehensions -/
theorem dc_imp {bx : Bool} {own : List (Str × Nat)} {tg : Tg} {fs : List (Option D) → Sto → Res (List P)} {fc : List (Option D) → Sto → Res Bool} {fk fe : List (Option D) → Sto → Res D}
    (hv : ∀ i ∈ tg.names, i ∈ own.map (·.2)) {σ : L2.St} {H : Hp} {Q : VK} (hw : tE X cl W (fun ρ S => (fs ρ S).bind fun items S => (calm (turnsD (stepD (own.map (·.2)) tg fc fk fe ρ) items [] [] S)).bind fun l S => boxIf bx (.dk l.1 l.2) S) σ H Q) :
    tDc (tI X cl W fs) (gT X.K tg) (tT X cl WN fc) (tE X cl WN fk) (tE X cl WN fe) (own.map (·.2)) σ H Q := by
  obtain ⟨ρ, S, μ, F, B, r, h⟩ := hw
  refine ⟨ρ, S, μ, F, B, r, Sat.mono (Sat.bind h) fun J H1 ⟨items, S1, μ1, B1, f1, wk, h1⟩ D hD => ?_⟩
  have r1 := r.mono f1.pre f1.gle (cl := cl)
  obtain ⟨⟨lk, lv⟩, Sf, hl, h1⟩ := calm_inv h1
  obtain ⟨B2, f2, g2⟩ := B1.hideNew (u := .dK []) hD
  have hDF : D ∉ F := fun z => B1.hd D z hD
  have fup : ∀ {μ' : List Addr} {S' : Sto} {H' : Hp} {u : HO}, Fra μ1 S1 H1 μ' S' H' → Fra μ1 S1 H1 μ' S' (upd H' D u) := fun f => ⟨f.pre, fun a u h e => ⟨by rw [upd_ne (ne_of_none e hD)]; exact (f.keep a u h e).1, (f.keep a u h e).2⟩, fun a h => by
    rw [upd_ne (fun e => h (by rw [e]; exact hD))]
    exact f.dom a h⟩
  refine ⟨fun i m H => m = items.length - i ∧ i ≤ items.length ∧ ∃ ak av vs S μ, H D = some (.dK vs) ∧ Bears X.K cl (D :: F) μ H S ∧ Fra μ1 S1 H1 μ S H ∧ Gle (Gz F μ1 S1 H1) (Gz (D :: F) μ S H) ∧ (vs.map (·.1) = ak ∧ RepL X.K cl (Gz (D :: F) μ S H) av (vs.map (·.2))) ∧
    turnsD (stepD (own.map (·.2)) tg fc fk fe ρ) (items.drop i) ak av S = .ok (lk, lv) Sf, ⟨items.length, by simp, Nat.zero_le _, [], [], [], S1, μ1, upd_same, B2, f2, g2, ⟨rfl, rfl⟩, hl⟩, ?_⟩
  rintro i m H2 ⟨rfl, hle, ak, av, vs, S2, μ2, hD2, B3, f3, g3, ⟨rak, ra⟩, ht2⟩
  obtain ⟨wstop, wgo⟩ := wk i (D :: F) μ2 S2 H2 B3 g3
  by_cases hlt : i < items.length
  · right
    obtain ⟨go, yl⟩ := wgo items[i] (by simp [hlt])
    have hdr : items.drop i = items[i] :: items.drop (i + 1) := (List.getElem_cons_drop hlt).symm
    rw [hdr] at ht2
    obtain ⟨y, S3, hstep, ht3⟩ := bind_inv ht2
    -- what the turn is to reach
    refine ⟨go, fun H' => ∃ ak av vs S μ, H' D = some (.dK vs) ∧ Bears X.K cl (D :: F) μ H' S ∧ Fra μ1 S1 H1 μ S H' ∧ Gle (Gz F μ1 S1 H1) (Gz (D :: F) μ S H') ∧ (vs.map (·.1) = ak ∧ RepL X.K cl (Gz (D :: F) μ S H') av (vs.map (·.2))) ∧ turnsD (stepD (own.map (·.2)) tg fc fk fe ρ) (items.drop (i + 1)) ak av S = .ok (lk, lv) Sf,
      fun H' z => ⟨items.length - (i + 1), by omega, rfl, hlt, z⟩, fun x H' yy => ?_⟩
    obtain ⟨B4, f4, rp⟩ := yl x H' yy
    have f34 := f3.trans f4
    have g4 : Gle (Gz F μ1 S1 H1) (Gz (D :: F) μ2 S2 H') := g3.trans f4.gle
    have rs : RepS X.K cl μ2 (Gz (D :: F) μ2 S2 H') (wipe σ (own.map (·.2))) (wipeR ρ (own.map (·.2))) := (r1.mono f34.pre g4 (cl := cl)).wipe _
    have hDk : ∀ {μ' : List Addr} {S' : Sto} {H'' : Hp}, Fra μ2 S2 H2 μ' S' H'' → H'' D = some (.dK vs) := fun f => (f.keep D _ (B3.offhid List.mem_cons_self) hD2).1
    unfold stepD at hstep
    cases hst : setTg tg items[i] (wipeR ρ (own.map (·.2))) with
    | none => rw [hst] at hstep; cases hstep
    | some ρ' =>
      rw [hst] at hstep
      dsimp only at hstep
      obtain ⟨t, S4, hc1, hstep⟩ := bind_inv hstep
      refine setTg_rep rs rp gz_gle hst fun σ' rs' hw => ⟨by rw [hw _ hv, wipe_twice], ⟨ρ', S2, μ2, D :: F, B4, rs', sat_ok hc1 fun b μ4 H4 B5 f5 e5 => ?_⟩⟩
      obtain rfl : t = b := e5
      have f35 := f34.trans f5
      have g5 := g4.trans f5.gle
      cases t with
      | false =>
        simp only [Bool.false_eq_true, if_false] at hstep ⊢
        cases hstep
        exact ⟨ak, av, vs, S3, μ4, hDk (f4.trans f5), B5, f35, g5, ⟨rak, RepL.mono (f4.trans f5).gle _ _ ra⟩, ht3⟩
      | true =>
        simp only [if_true] at hstep ⊢
        obtain ⟨d, S5, hk1, hstep⟩ := bind_inv hstep
        obtain ⟨e, S6, he1, hstep⟩ := bind_inv hstep
        obtain ⟨p, S7, hf1, hstep⟩ := bind_inv hstep
        cases d with
        | box n => cases hstep
        | p q =>
          dsimp only at hstep
          cases hq : keyOf q with
          | none => rw [hq] at hstep; cases hstep
          | some kq =>
            rw [hq] at hstep
            cases hstep
            dsimp only at ht3
            refine ⟨ρ', S4, μ4, D :: F, B5, rs'.mono f5.pre f5.gle, sat_ok hk1 fun vk μ5 H5 B6 f6 rk => ?_⟩
            refine ⟨ρ', S5, μ5, D :: F, B6, (rs'.mono f5.pre f5.gle).mono f6.pre f6.gle, sat_ok he1 fun v μ6 H6 B7 f7 rv => ?_⟩
            obtain ⟨B8, f8, rp8⟩ := frz_ok B7 rv hf1
            have ek : vk = kV kq := key_of hq (vw_rep (G := _) (H := H5) rk gz_gle)
            have f48 := (f4.trans f5).trans (f6.trans (f7.trans f8))
            have rl := put_rep (x := kq) rak (RepL.mono f48.gle _ _ ra) rp8
            split at ht3
            · rename_i hz
              obtain ⟨B9, eG⟩ := B8.hid (u := .dK (putK vs kq v)) List.mem_cons_self
              have gl : Gle (Gz F μ1 S1 H1) (Gz (D :: F) μ6 S3 H6) := g5.trans (f6.trans (f7.trans f8)).gle
              exact ⟨vs, kq, ek, hDk f48, by rw [← rak, List.length_map] at hz; exact hz, _, _, putK vs kq v, S3, μ6, upd_same, B9, fup (f35.trans (f6.trans (f7.trans f8))), by rw [eG]; exact gl, ⟨rl.1, by rw [eG]; exact rl.2⟩, ht3⟩
            · cases ht3
  · left
    have e : i = items.length := by omega
    subst e
    rw [List.drop_length] at ht2
    cases ht2
    refine ⟨wstop (Nat.le_refl _), ?_⟩
    cases bx with
    | false =>
      obtain ⟨B4, g4⟩ := B3.unhide
      refine h1 (.ref D) μ2 H2 B4 f3 ⟨D, vs, rfl, .inl ?_, rak, RepL.mono g4 _ _ ra⟩
      rw [gz_of (B3.offhid List.mem_cons_self) hDF]
      exact hD2
    | true =>
      have B4 := B3.adopt (o := .dk lk lv) hDF ⟨vs, hD2, rak, ra⟩
      refine h1 (.ref D) (μ2 ++ [D]) H2 B4 ⟨List.IsPrefix.trans f3.pre (List.prefix_append _ _), fun a u h e => ⟨(f3.keep a u h e).1, fun z => ?_⟩, f3.dom⟩ ⟨D, rfl, by rw [← B3.len]; simp⟩
      rcases liv_app B3.len z with z | z
      · exact (f3.keep a u h e).2 z
      · rw [z, hD] at e; cases e
theorem ts_nil : PTs X [] (tT X cl WN fun _ S => .ok true S) := pts_nil.imp fun σ H Q ⟨ρ, S, μ, F, B, r, h⟩ => h true μ H B Fra.refl rfl
theorem ts_one {c : Expr} {f : List (Option D) → Sto → Res Bool} (h : PT X c (tT X cl W f)) : PTs X [c] (tT X cl W f) := pts_one h
end
end PD
/-! Lists changed by methods; statements. -/
namespace PD
open PySem L2 PySem.Spec PyProof.Rows
section
variable {X : Cx} {cl : Nat → Addr} {W : WX}
theorem lst_at {K : PySem.W.Frag} {F μ : List Addr} {S : Sto} {H : Hp} {d : D} {v : V} (B : Bears K cl F μ H S) (r : RepD K cl μ (Gz F μ S H) d v) (h : isLst S d = true) : ∃ n a l xs, d = .box n ∧ v = .ref a ∧ μ[n]? = some a ∧ S[n]? = some (some (.lst l)) ∧ H a = some (.lst xs) ∧ RepL K cl (Gz F μ S H) l xs := by
  cases d with
  | p x => cases h
  | box n =>
    obtain ⟨a, rfl, hn⟩ := r
    simp only [isLst] at h
    split at h
    · rename_i l hs
      obtain ⟨xs, e, rl⟩ := B.obj n a _ hn hs
      exact ⟨n, a, l, xs, rfl, rfl, hn, hs, e, rl⟩
    · cases h
theorem few1 {a : Expr} {cpos : Pos} {env : Env} (hs : noStar a = true) : ((backTo cpos (starEach [a] env)).all (fun x => !x.1) && (backToKw cpos (keywordEach [] env)).all (fun x => x.1.isSome)
      && decide (([a] : List Expr).length + ([] : List Keyword).length + (if ([] : List Keyword).isEmpty then 0 else 1) < 30)) = true := by
  rw [star_all (by simp [hs])]
  rfl
theorem e_append {o a : Expr} {apos cpos : Pos} {fo fa : List (Option D) → Sto → Res D} (hb : plainBase o = true) (hs : noStar a = true) (hl : (apos.endLine == cpos.line) = true) (ho : PE X o (tE X cl W fo)) (ha : PE X a (tE X cl W fa)) :
    PE X (.Call (.Attribute o "append" apos) [a] [] cpos) (tE X cl W fun ρ S => (fo ρ S).bind fun d S => if isLst S d = false then .bad else (fa ρ S).bind fun e S => (frz S e).bind fun x S => match d with
      | .box n => match S[n]? with
        | some (some ob) => match mutO .append ob x with
          | some ob' => .ok (.p .non) (S.set n (some ob'))
          | none => .bad
        | _ => .bad
      | .p _ => .bad) := by
  refine (pe_bm PySem.F.plainAttrs_list PySem.F.slot_list_append PySem.F.type_list_append mt_append ho (pa_cons ha pa_nil (star_cons hs)) (base_plain hb) (few1 hs) hl (star_cons hs) rfl).imp fun σ H Q ⟨ρ, S, μ, F, B, r, h⟩ => ?_
  refine stepE B r h fun x H1 d S1 μ1 B1 f1 r1 rd h1 => ?_
  split at h1
  · exact h1.elim
  · rename_i hi
    obtain ⟨n, a, l, xs, rfl, rfl, hn, hs, hH, rl⟩ := lst_at B1 rd (by simpa using hi)
    refine ⟨.inl ⟨rfl, xs, .inl (.inl hH)⟩, stepE B1 r1 h1 fun y H2 e S2 μ2 B2 f2 r2 re h2 => ?_⟩
    obtain ⟨p, S3, e1, l1, B3, f3, q3, h3⟩ := Sat.frz B2 re h2
    have hn3 : μ2[n]? = some a := pre_get f2.pre hn
    cases hs3 : S3[n]? with
    | none => simp only [hs3] at h3; exact h3.elim
    | some oo =>
      cases oo with
      | none => simp only [hs3] at h3; exact h3.elim
      | some ob =>
        simp only [hs3] at h3
        have qo := B3.obj n a ob hn3 hs3
        cases ob <;> first | exact h3.elim | skip
        rename_i l2
        simp only [mutO] at h3
        obtain ⟨xs2, hH2, rl2⟩ := qo
        split at h3
        · rename_i ob' hm
          split at hm
          · rename_i hz
            cases hm
            refine ⟨a, xs2, y, rfl, rfl, hH2, by rw [← rl2.len]; exact hz, ?_⟩
            obtain ⟨B4, f4⟩ := B3.write (x := .lst (l2 ++ [p])) (u := .lst (xs2 ++ [y])) hn3 hs3 ⟨xs2 ++ [y], upd_same, rl2.app (RepL.one q3)⟩
            exact h3 _ μ2 _ B4 f4 rfl
          · cases hm
        · exact h3.elim
theorem e_extend {o a : Expr} {apos cpos : Pos} {fo fa : List (Option D) → Sto → Res D} (hb : plainBase o = true) (hs : noStar a = true) (hl : (apos.endLine == cpos.line) = true) (ho : PE X o (tE X cl W fo)) (ha : PE X a (tE X cl W fa)) :
    PE X (.Call (.Attribute o "extend" apos) [a] [] cpos) (tE X cl W fun ρ S => (fo ρ S).bind fun d S => if isLst S d = false then .bad else (fa ρ S).bind fun e S => (optR (view S e) S).bind fun x S => match d with
      | .box n => match S[n]? with
        | some (some ob) => match mutO .extend ob x with
          | some ob' => .ok (.p .non) (S.set n (some ob'))
          | none => .bad
        | _ => .bad
      | .p _ => .bad) := by
  refine (pe_bm PySem.F.plainAttrs_list PySem.F.slot_list_extend PySem.F.type_list_extend mt_extend ho (pa_cons ha pa_nil (star_cons hs)) (base_plain hb) (few1 hs) hl (star_cons hs) rfl).imp fun σ H Q ⟨ρ, S, μ, F, B, r, h⟩ => ?_
  refine stepE B r h fun x H1 d S1 μ1 B1 f1 r1 rd h1 => ?_
  split at h1
  · exact h1.elim
  · rename_i hi
    obtain ⟨n, a, l, xs, rfl, rfl, hn, hs, hH, rl⟩ := lst_at B1 rd (by simpa using hi)
    refine ⟨.inl ⟨rfl, xs, .inl (.inl hH)⟩, stepE B1 r1 h1 fun y H2 e S2 μ2 B2 f2 r2 re h2 => ?_⟩
    cases hv : view S2 e with
    | none => rw [hv] at h2; exact h2.elim
    | some p =>
      rw [hv] at h2
      have h3 := h2
      simp only [optR, Res.bind] at h3
      have vp := view_vw B2 re hv
      have hn3 : μ2[n]? = some a := pre_get f2.pre hn
      cases hs3 : S2[n]? with
      | none => simp only [hs3] at h3; exact h3.elim
      | some oo =>
        cases oo with
        | none => simp only [hs3] at h3; exact h3.elim
        | some ob =>
          simp only [hs3] at h3
          have qo := B2.obj n a ob hn3 hs3
          cases ob <;> first | exact h3.elim | skip
          rename_i l2
          cases p <;> first | exact h3.elim | skip
          rename_i m
          simp only [mutO] at h3
          obtain ⟨xs2, hH2, rl2⟩ := qo
          obtain ⟨b, zs, rfl, hB, rz⟩ := vp
          split at h3
          · rename_i ob' hm
            split at hm
            · rename_i hz
              cases hm
              refine ⟨a, b, xs2, zs, rfl, rfl, hH2, hB, by rw [← rl2.len, ← rz.len]; exact hz, ?_⟩
              obtain ⟨B4, f4⟩ := B2.write (x := .lst (l2 ++ m)) (u := .lst (xs2 ++ zs)) hn3 hs3 ⟨xs2 ++ zs, upd_same, rl2.app rz⟩
              exact h3 _ μ2 _ B4 f4 rfl
            · cases hm
          · exact h3.elim
/-! ### statements -/
/-- what is wanted of a statement's end -/
def SatO (K : PySem.W.Frag) (cl : Nat → Addr) (F μ : List Addr) (S : Sto) (H : Hp) (W : WX) (E : Ends) : Out → Prop
  | .next ρ S' => ∀ σ' μ' H', Bears K cl F μ' H' S' → Fra μ S H μ' S' H' → RepS K cl μ' (Gz F μ' S' H') σ' ρ → E.nx σ' H'
  | .ret d S' => ∀ v μ' H', Bears K cl F μ' H' S' → Fra μ S H μ' S' H' → RepD K cl μ' (Gz F μ' S' H') d v → E.rt v H'
  | .rse ρ c ns vs S' => ∀ σ' dd μ' H', Bears K cl F μ' H' S' → Fra μ S H μ' S' H' → RepS K cl μ' (Gz F μ' S' H') σ' ρ → XRep K cl (Gz F μ' S' H') H' ns vs dd → W (.ref (cl c)) dd σ' H'
  | .bad => False
def tS (X : Cx) (cl : Nat → Addr) (W : WX) (f : List (Option D) → Sto → Out) : TS := fun E σ H => ∃ ρ S μ F, Bears X.K cl F μ H S ∧ RepS X.K cl μ (Gz F μ S H) σ ρ ∧ SatO X.K cl F μ S H W E (f ρ S)
section
variable {K : PySem.W.Frag} {F μ μ' : List Addr} {S S' : Sto} {H H' : Hp} {E E' : Ends} {σ : L2.St} {ρ : List (Option D)} {r : Out}
theorem SatO.later (f : Fra μ S H μ' S' H') (h : SatO K cl F μ S H W E r) : SatO K cl F μ' S' H' W E r := by
  cases r with
  | next ρ S2 => exact fun σ' μ2 H2 B g rs => h σ' μ2 H2 B (f.trans g) rs
  | ret d S2 => exact fun v μ2 H2 B g rs => h v μ2 H2 B (f.trans g) rs
  | rse ρ c ns vs S2 => exact fun σ' dd μ2 H2 B g rs rx => h σ' dd μ2 H2 B (f.trans g) rs rx
  | bad => exact h
/-- a result, then what goes on with it -/
theorem SatO.out {α β : Type} {R : List Addr → Hp → α → β → Prop} {res : Res α} {g : α → Sto → Out} (rs : RepS K cl μ (Gz F μ S H) σ ρ) (h : SatO K cl F μ S H W E (res.out ρ g)) :
    Sat K cl F μ S H R res (WS W σ) (fun b H1 => ∃ a S1 μ1, Bears K cl F μ1 H1 S1 ∧ Fra μ S H μ1 S1 H1 ∧ R μ1 (Gz F μ1 S1 H1) a b ∧ SatO K cl F μ1 S1 H1 W E (g a S1)) := by
  cases res with
  | ok a S1 => exact fun b μ1 H1 B f rr => ⟨a, S1, μ1, B, f, rr, h.later f⟩
  | rse c ns vs S1 => exact fun dd μ1 H1 B f rx => h σ dd μ1 H1 B f (rs.mono f.pre f.gle) rx
  | bad => exact h
theorem SatO.seq {f : List (Option D) → Sto → Out} (h : SatO K cl F μ S H W E (r.andThen f)) (hrt : E'.rt = E.rt) (hnx : ∀ σ' μ' H' ρ' S', Bears K cl F μ' H' S' → Fra μ S H μ' S' H' → RepS K cl μ' (Gz F μ' S' H') σ' ρ' → SatO K cl F μ' S' H' W E (f ρ' S') → E'.nx σ' H') : SatO K cl F μ S H W E' r := by
  cases r with
  | next ρ S2 => exact fun σ' μ2 H2 B g rs => hnx σ' μ2 H2 ρ S2 B g rs (SatO.later g h)
  | ret d S2 => exact fun v μ2 H2 B g rd => by rw [hrt]; exact h v μ2 H2 B g rd
  | rse ρ c ns vs S2 => exact h
  | bad => exact h
theorem SatO.frz {v : V} {d : D} {g : P → Sto → Out} (B : Bears K cl F μ H S) (r : RepD K cl μ (Gz F μ S H) d v) (rs : RepS K cl μ (Gz F μ S H) σ ρ) (h : SatO K cl F μ S H W E ((frz S d).out ρ g)) : ∃ p S1, frz S d = .ok p S1 ∧ Bears K cl F μ H S1 ∧ Fra μ S H μ S1 H ∧ Rep K cl (Gz F μ S1 H) p v ∧ SatO K cl F μ S1 H W E (g p S1) := by
  have h2 := SatO.out (R := RP K cl) rs h
  have h3 : Sat K cl F μ S H (RP K cl) ((PD.frz S d).bind fun p S => .ok p S) (WS W σ) (fun b H1 => ∃ a S1 μ1, Bears K cl F μ1 H1 S1 ∧ Fra μ S H μ1 S1 H1 ∧ RP K cl μ1 (Gz F μ1 S1 H1) a b ∧ SatO K cl F μ1 S1 H1 W E (g a S1)) := by
    rw [bind_ok]; exact h2
  obtain ⟨p, S1, e1, l1, B1, f1, r1, _⟩ := Sat.frz B r h3
  rw [e1] at h
  exact ⟨p, S1, e1, B1, f1, r1, SatO.later f1 h⟩
end
section
variable {F μ : List Addr} {S : Sto} {H : Hp} {E : Ends} {σ : L2.St} {ρ : List (Option D)}
theorem outE {f : List (Option D) → Sto → Res D} {g : D → Sto → Out} {Q : VK} (B : Bears X.K cl F μ H S) (r : RepS X.K cl μ (Gz F μ S H) σ ρ) (h : SatO X.K cl F μ S H W E ((f ρ S).out ρ g))
    (k : ∀ x H1 d S1 μ1, Bears X.K cl F μ1 H1 S1 → Fra μ S H μ1 S1 H1 → RepS X.K cl μ1 (Gz F μ1 S1 H1) σ ρ → RepD X.K cl μ1 (Gz F μ1 S1 H1) d x → SatO X.K cl F μ1 S1 H1 W E (g d S1) → Q x H1) : tE X cl W f σ H Q :=
  ⟨ρ, S, μ, F, B, r, Sat.mono (SatO.out r h) fun x H1 ⟨d, S1, μ1, B1, f1, r1, h1⟩ => k x H1 d S1 μ1 B1 f1 (r.mono f1.pre f1.gle) r1 h1⟩
theorem outT {f : List (Option D) → Sto → Res Bool} {g : Bool → Sto → Out} {Q : Bool → Hp → Prop} (B : Bears X.K cl F μ H S) (r : RepS X.K cl μ (Gz F μ S H) σ ρ) (h : SatO X.K cl F μ S H W E ((f ρ S).out ρ g))
    (k : ∀ b H1 S1 μ1, Bears X.K cl F μ1 H1 S1 → Fra μ S H μ1 S1 H1 → RepS X.K cl μ1 (Gz F μ1 S1 H1) σ ρ → SatO X.K cl F μ1 S1 H1 W E (g b S1) → Q b H1) : tT X cl W f σ H Q :=
  ⟨ρ, S, μ, F, B, r, Sat.mono (SatO.out (R := RB) r h) fun x H1 ⟨d, S1, μ1, B1, f1, r1, h1⟩ => by
    obtain rfl : d = x := r1
    exact k d H1 S1 μ1 B1 f1 (r.mono f1.pre f1.gle) h1⟩
end
section
variable {st : Stmt} {rest : List Stmt} {pos : Pos} {f g : List (Option D) → Sto → Out}
theorem b_nil : PSs X [] (tS X cl W fun ρ S => .next ρ S) := pss_nil.imp fun E σ H ⟨ρ, S, μ, F, B, r, h⟩ => h σ μ H B Fra.refl r
theorem b_cons (h1 : PS X st (tS X cl W f)) (h2 : PSs X rest (tS X cl W g)) : PSs X (st :: rest) (tS X cl W fun ρ S => (f ρ S).andThen g) := by
  refine (pss_cons h1 h2).imp fun E σ H ⟨ρ, S, μ, F, B, r, h⟩ => ⟨ρ, S, μ, F, B, r, SatO.seq h rfl fun σ' μ' H' ρ' S' B' f' rs h' => ⟨ρ', S', μ', F, B', rs, h'⟩⟩
theorem s_pass : PS X (.Pass pos) (tS X cl W fun ρ S => .next ρ S) := ps_pass.imp fun E σ H ⟨ρ, S, μ, F, B, r, h⟩ => h σ μ H B Fra.refl r
theorem s_bad : PS X st (tS X cl W fun _ _ => .bad) := ps_never.imp fun E σ H ⟨ρ, S, μ, F, B, r, h⟩ => h
theorem s_ex {e : Expr} {fe : List (Option D) → Sto → Res D} (hc : noComp e = true) (he : PE X e (tE X cl W fe)) : PS X (.Expr e pos) (tS X cl W fun ρ S => (fe ρ S).out ρ fun _ S => .next ρ S) :=
  (ps_expr he (swaps_no hc)).imp fun E σ H ⟨ρ, S, μ, F, B, r, h⟩ => outE B r h fun x H1 d S1 μ1 B1 f1 r1 rd h1 => h1 σ μ1 H1 B1 Fra.refl r1
theorem s_ret {e : Expr} {fz : Bool} {fe : List (Option D) → Sto → Res D} (he : PE X e (tE X cl W fe)) : PS X (.Return (some e) pos) (tS X cl W fun ρ S => (fe ρ S).out ρ fun d S => if fz then (frz S d).out ρ fun p S => .ret (.p p) S else .ret d S) := by
  refine (ps_ret he).imp fun E σ H ⟨ρ, S, μ, F, B, r, h⟩ => outE B r h fun x H1 d S1 μ1 B1 f1 r1 rd h1 => ?_
  cases fz with
  | true =>
    obtain ⟨p, S2, e1, B2, f2, rp, h2⟩ := SatO.frz B1 rd r1 h1
    exact h2 x μ1 H1 B2 Fra.refl rp
  | false => exact h1 x μ1 H1 B1 Fra.refl rd
theorem s_retN : PS X (.Return none pos) (tS X cl W fun _ S => .ret (.p .non) S) := ps_retN.imp fun E σ H ⟨ρ, S, μ, F, B, r, h⟩ => h .non μ H B Fra.refl rfl
theorem s_if {c : Expr} {a b : List Stmt} {fc : List (Option D) → Sto → Res Bool} (hc : PT X c (tT X cl W fc)) (ha : PSs X a (tS X cl W f)) (hb : PSs X b (tS X cl W g)) : PS X (.If c a b pos) (tS X cl W fun ρ S => (fc ρ S).out ρ fun t S => if t then f ρ S else g ρ S) := by
  refine (ps_if hc ha hb).imp fun E σ H ⟨ρ, S, μ, F, B, r, h⟩ => outT B r h fun b H1 S1 μ1 B1 f1 r1 h1 => ?_
  cases b with
  | true => exact ⟨ρ, S1, μ1, F, B1, r1, h1⟩
  | false => exact ⟨ρ, S1, μ1, F, B1, r1, h1⟩
theorem s_set {i : Nat} {x : Str} {e : Expr} {pos' : Pos} {fe : List (Option D) → Sto → Res D} (hp : PS X (.Assign [.Name x pos'] e pos) (tAsg (tE X cl W fe) (gName i))) :
    PS X (.Assign [.Name x pos'] e pos) (tS X cl W fun ρ S => (fe ρ S).out ρ fun d S => .next (ρ.set i (some d)) S) := by
  refine hp.imp fun E σ H ⟨ρ, S, μ, F, B, r, h⟩ => outE B r h fun x H1 d S1 μ1 B1 f1 r1 rd h1 => ?_
  exact h1 _ μ1 H1 B1 Fra.refl (r1.set rd)
theorem s_tp {tg e : Expr} {is : List Nat} {fe : List (Option D) → Sto → Res D} (hp : PS X (.Assign [tg] e pos) (tAsg (tE X cl W fe) (gT X.K (.tp is)))) :
    PS X (.Assign [tg] e pos) (tS X cl W fun ρ S => (fe ρ S).out ρ fun d S => match d with
      | .p x => match setTg (.tp is) x ρ with
        | some ρ => .next ρ S
        | none => .bad
      | .box _ => .bad) := by
  refine hp.imp fun E σ H ⟨ρ, S, μ, F, B, r, h⟩ => outE B r h fun x H1 d S1 μ1 B1 f1 r1 rd h1 => ?_
  cases d with
  | box n => exact h1.elim
  | p y =>
    dsimp only at h1
    cases hst : setTg (.tp is) y ρ with
    | none => rw [hst] at h1; exact h1.elim
    | some ρ' =>
      rw [hst] at h1
      exact setTg_rep r1 rd gz_gle hst fun σ' rs' _ => h1 σ' μ1 H1 B1 Fra.refl rs'
theorem s_par {i j : Nat} {fa fb : List (Option D) → Sto → Res D} (hp : PS X st (tPar i j (tCons (tE X cl W fa) (tCons (tE X cl W fb) tNil)))) :
    PS X st (tS X cl W fun ρ S => (fa ρ S).out ρ fun d S => (fb ρ S).out ρ fun e S => if i = j then .bad else .next ((ρ.set i (some d)).set j (some e)) S) := by
  refine hp.imp fun E σ H ⟨ρ, S, μ, F, B, r, h⟩ => outE B r h fun x H1 d S1 μ1 B1 f1 r1 rd h1 => outE B1 r1 h1 fun y H2 e S2 μ2 B2 f2 r2 re h2 => ?_
  split at h2
  · exact h2.elim
  · exact ⟨x, y, rfl, h2 _ μ2 H2 B2 Fra.refl ((r2.set (rd.mono f2.pre f2.gle)).set re)⟩
theorem s_par3 {i j l : Nat} {fa fb fc : List (Option D) → Sto → Res D} (hp : PS X st (tPar3 i j l (tCons (tE X cl W fa) (tCons (tE X cl W fb) (tCons (tE X cl W fc) tNil))))) :
    PS X st (tS X cl W fun ρ S => (fa ρ S).out ρ fun d S => (fb ρ S).out ρ fun e S => (fc ρ S).out ρ fun g S => if i = j ∨ i = l ∨ j = l then .bad else .next (((ρ.set i (some d)).set j (some e)).set l (some g)) S) := by
  refine hp.imp fun E σ H ⟨ρ, S, μ, F, B, r, h⟩ => outE B r h fun x H1 d S1 μ1 B1 f1 r1 rd h1 => outE B1 r1 h1 fun y H2 e S2 μ2 B2 f2 r2 re h2 => outE B2 r2 h2 fun z H3 q S3 μ3 B3 f3 r3 rq h3 => ?_
  split at h3
  · exact h3.elim
  · exact ⟨x, y, z, rfl, h3 _ μ3 H3 B3 Fra.refl (((r3.set ((rd.mono f2.pre f2.gle).mono f3.pre f3.gle)).set (re.mono f3.pre f3.gle)).set rq)⟩
end
end
end PD
/-! More statements: op=, o[k] = v, o.f = v, loops; a def by its body. -/
namespace PD
open PySem L2 PySem.Spec PyProof.Rows
section
variable {X : Cx} {cl : Nat → Addr} {W : WX} {st : Stmt} {pos : Pos} {f g : List (Option D) → Sto → Out}
/-! ### op= at a name -/
def flatV : P → V
  | .int i => .int i
  | .str s => .str s
  | _ => .non
def rAug (o : Op2) : V → V → Hp → VK → Prop := fun x y H Q => ∃ p q z, augP o p q = some z ∧ x = flatV p ∧ y = flatV q ∧ Q (flatV z) H
theorem aug_flat {o : Op2} {p q z : P} (h : augP o p q = some z) : (∀ {K : PySem.W.Frag} {G : Hp}, Rep K cl G z (flatV z)) ∧ (∀ {K : PySem.W.Frag} {G : Hp} {v : V}, Rep K cl G p v → v = flatV p) ∧ (∀ {K : PySem.W.Frag} {G : Hp} {v : V}, Rep K cl G q v → v = flatV q) := by
  cases p <;> cases q <;> first | (cases h; done) | skip
  · refine ⟨fun {K G} => ?_, fun r => r, fun r => r⟩
    cases o <;> first | (cases h; done) | skip
    all_goals simp only [augP, prim2] at h
    · cases h; rfl
    · cases h; rfl
    · split at h
      · cases h; rfl
      · cases h
    · split at h
      · cases h; rfl
      · split at h
        · cases h; rfl
        · cases h
  · refine ⟨fun {K G} => ?_, fun r => r, fun r => r⟩
    cases o <;> first | (cases h; done) | skip
    simp only [augP, prim2] at h
    split at h
    · cases h; rfl
    · cases h
theorem ip_aug {o : Op2} {op : Operator} (ho : opOf op = some o) : PIp X op (rAug o) := by
  intro pins s σ H x y v u Q I rx ry h
  obtain ⟨p, q, z, hz, rfl, rfl, h⟩ := h
  cases p <;> cases q <;> first | (cases hz; done) | skip
  · obtain ⟨t, rfl⟩ := rx
    obtain ⟨t', rfl⟩ := ry
    cases op <;> simp only [opOf] at ho <;> cases ho <;> first | (cases hz; done) | skip
    all_goals simp only [augP, prim2] at hz
    · cases hz
      exact iadd_int ⟨.int _, H, I.tok _, ⟨_, rfl⟩, h⟩
    · cases hz
      exact isub_int ⟨.int _, H, I.tok _, ⟨_, rfl⟩, h⟩
    · split at hz
      · rename_i hc
        cases hz
        exact imul_int ⟨.int _, H, I.tok _, ⟨_, rfl⟩, h⟩ (CMulW.ok hc)
      · cases hz
    · split at hz
      · rename_i hc
        cases hz
        refine imod_int (by omega) ?_
        rw [Int.fmod_eq_emod_of_nonneg _ (by omega)]
        exact ⟨.int _, H, I.tok _, ⟨_, rfl⟩, h⟩
      · split at hz
        · rename_i hc
          cases hz
          exact imod_int hc ⟨.int _, H, I.tok _, ⟨_, rfl⟩, h⟩
        · cases hz
  · cases op <;> simp only [opOf] at ho <;> cases ho <;> first | (cases hz; done) | skip
    simp only [augP, prim2] at hz
    split at hz
    · cases hz
      exact iop_add_str pins s σ H _ _ v u Q I rx ry ⟨_, _, rfl, rfl, by assumption, h⟩
    · cases hz
theorem s_aug {o : Op2} {i : Nat} {fe : List (Option D) → Sto → Res D} (hp : PS X st (tAug i (tE X cl W fe) (rAug o))) :
    PS X st (tS X cl W fun ρ S => match ρ[i]? with
      | some (some (.p x)) => (fe ρ S).out ρ fun d S => match d with
        | .p y => match augP o x y with
          | some z => .next (ρ.set i (some (.p z))) S
          | none => .bad
        | _ => .bad
      | _ => .bad) := by
  refine hp.imp fun E σ H ⟨ρ, S, μ, F, B, r, h⟩ => ?_
  dsimp only at h
  split at h
  · rename_i x hx
    obtain ⟨v, hv, rv⟩ := r.2 i _ hx
    refine ⟨v, hv, outE B r h fun y H1 d S1 μ1 B1 f1 r1 rd h1 => ?_⟩
    cases d with
    | box n => exact h1.elim
    | p q =>
      dsimp only at h1
      cases ha : augP o x q with
      | none => rw [ha] at h1; exact h1.elim
      | some z =>
        rw [ha] at h1
        obtain ⟨a1, a2, a3⟩ := aug_flat (cl := cl) ha
        exact ⟨x, q, z, ha, a2 rv, a3 rd, h1 _ μ1 H1 B1 Fra.refl (r1.set (d := .p z) a1)⟩
  · exact h.elim
theorem s_auge {i : Nat} {fe : List (Option D) → Sto → Res D} (hp : PS X st (tAug i (tE X cl W fe) rExt2)) :
    PS X st (tS X cl W fun ρ S => match ρ[i]? with
      | some (some (.box n)) => (fe ρ S).out ρ fun d S => match view S d with
        | some x => match S[n]? with
          | some (some ob) => match mutO .extend ob x with
            | some ob' => .next ρ (S.set n (some ob'))
            | none => .bad
          | _ => .bad
        | none => .bad
      | _ => .bad) := by
  refine hp.imp fun E σ H ⟨ρ, S, μ, F, B, r, h⟩ => ?_
  dsimp only at h
  split at h
  · rename_i n hx
    obtain ⟨v, hv, a, rfl, hn⟩ := r.2 i _ hx
    refine ⟨.ref a, hv, outE B r h fun y H1 d S1 μ1 B1 f1 r1 rd h1 => ?_⟩
    cases hw : view S1 d with
    | none => simp only [hw] at h1; exact h1.elim
    | some x =>
      simp only [hw] at h1
      have vp := view_vw B1 rd hw
      have hn1 : μ1[n]? = some a := pre_get f1.pre hn
      cases hs : S1[n]? with
      | none => simp only [hs] at h1; exact h1.elim
      | some oo =>
        cases oo with
        | none => simp only [hs] at h1; exact h1.elim
        | some ob =>
          simp only [hs] at h1
          have qo := B1.obj n a ob hn1 hs
          cases ob <;> first | exact h1.elim | skip
          rename_i l2
          cases x <;> first | exact h1.elim | skip
          rename_i m
          simp only [mutO] at h1
          obtain ⟨xs2, hH2, rl2⟩ := qo
          obtain ⟨b, zs, rfl, hB, rz⟩ := vp
          split at h1
          · rename_i ob' hm
            split at hm
            · rename_i hz
              cases hm
              refine ⟨a, b, xs2, zs, rfl, rfl, hH2, hB, by rw [← rl2.len, ← rz.len]; exact hz, ?_⟩
              obtain ⟨B4, f4⟩ := B1.write (x := .lst (l2 ++ m)) (u := .lst (xs2 ++ zs)) hn1 hs ⟨xs2 ++ zs, upd_same, rl2.app rz⟩
              have r4 := r1.mono f4.pre f4.gle (cl := cl)
              refine h1 _ μ1 _ B4 f4 ⟨by rw [List.length_set]; exact r4.1, fun j d' e' => ?_⟩
              by_cases c : i = j
              · subst c
                rw [hx] at e'
                cases e'
                exact ⟨.ref a, List.getElem?_set_self ((List.getElem?_eq_some_iff.mp hv).1), a, rfl, hn1⟩
              · rw [List.getElem?_set_ne c]
                exact r4.2 j d' e'
            · cases hm
          · exact h1.elim
  · exact h.elim
/-! ### o[k] = v -/
def rSet : TSet := fun o i v H Q => rSetL o i v H Q ∨ ∃ a H', o = .ref a ∧ DPut H a i v H' ∧ Q H'
theorem set_any (hu : X.A.units + 66 < cLine) : PSet X rSet := by
  intro pins s σ H o i v ov iv u Q I ro ri rv h
  rcases h with h | ⟨a, H', rfl, hp, q⟩
  · exact set_list pins s σ H o i v ov iv u Q I ro ri rv h
  · obtain rfl : ov = Value.ref a := ro
    exact d_setItem (by omega) I hp ri rv fun s4 I4 => ⟨H', I4, q⟩
theorem set_step {K : PySem.W.Frag} {F μ : List Addr} {S : Sto} {H : Hp} {n : Nat} {a : Addr} {ob ob' : O} {kx x : P} {i v : V} {Q : Hp → Prop} (B : Bears K cl F μ H S) (hn : μ[n]? = some a) (hs : S[n]? = some (some ob)) (rk : Rep K cl (Gz F μ S H) kx i) (rx : Rep K cl (Gz F μ S H) x v)
    (h : setO ob kx x = some ob') (k : ∀ H', Bears K cl F μ H' (S.set n (some ob')) → Fra μ S H μ (S.set n (some ob')) H' → Q H') : rSet (.ref a) i v H Q := by
  have qo := B.obj n a ob hn hs
  cases ob with
  | ins c ns vs => cases h
  | lst l =>
    cases kx <;> first | (cases h; done) | skip
    rename_i z
    obtain ⟨j, hj, rfl⟩ := Option.map_eq_some_iff.mp h
    obtain ⟨xs, hH, rl⟩ := qo
    obtain ⟨B4, f4⟩ := B.write (x := .lst (l.set j x)) (u := .lst (xs.set j v)) hn hs ⟨xs.set j v, upd_same, rl.set rx j⟩
    exact .inl ⟨a, xs, z, j, rfl, rk, hH, by rw [← rl.len]; exact hj, k _ B4 f4⟩
  | dk ks vs =>
    simp only [setO] at h
    obtain ⟨kk, hk, h⟩ := Option.bind_eq_some_iff.mp h
    split at h
    · rename_i hz
      cases h
      obtain ⟨kvs, hH, ek, rl⟩ := qo
      have ei := key_of hk (vw_rep rk gz_gle)
      subst ei
      have pr := put_rep (x := kk) ek rl rx
      obtain ⟨B4, f4⟩ := B.write (x := .dk (putv ks vs kk x).1 (putv ks vs kk x).2) (u := .dK (putK kvs kk v)) hn hs ⟨_, upd_same, pr.1, pr.2⟩
      exact .inr ⟨a, _, rfl, .k hH (by rw [← ek, List.length_map] at hz; exact hz), k _ B4 f4⟩
    · cases h
  | dt ks vs =>
    simp only [setO] at h
    obtain ⟨kk, hk, h⟩ := Option.bind_eq_some_iff.mp h
    split at h
    · rename_i hz
      cases h
      obtain ⟨kvs, hH, ek, rl⟩ := qo
      cases kx <;> first | (cases hk; done) | skip
      obtain ⟨b, ys, rfl, hb, rb⟩ := rk
      have ei := keys_of hk rb
      subst ei
      have pr := put_rep (x := kk) ek rl rx
      obtain ⟨B4, f4⟩ := B.write (x := .dt (putv ks vs kk x).1 (putv ks vs kk x).2) (u := .dT (putK kvs kk v)) hn hs ⟨_, upd_same, pr.1, pr.2⟩
      exact .inr ⟨a, _, rfl, .t hH (gz_gle.ex b (.tup _) trivial hb) (by rw [← ek, List.length_map] at hz; exact hz), k _ B4 f4⟩
    · cases h
theorem swaps_sub {e o i : Expr} {p : Pos} {l : Nat} {env : Env} : swapsWith e (some (.Subscript o i p)) l env = pure false := by cases e <;> rfl
theorem swaps_att {e o : Expr} {f : Str} {p : Pos} {l : Nat} {env : Env} : swapsWith e (some (.Attribute o f p)) l env = pure false := by cases e <;> rfl
theorem swaps_tup {e : Expr} {es : List Expr} {k : Nat} {p : Pos} {l : Nat} {env : Env} : swapsWith e (some (.Tuple es k p)) l env = pure false := by cases e <;> rfl
theorem swst_sub {e o i : Expr} {p : Pos} {env : Env} : swappedStores [.Subscript o i p] e env = pure none := by cases e <;> rfl
theorem asg_sub {o i : Expr} {p : Pos} {env : Env} {v : Value} (h : noSlice i = true) : assign (.Subscript o i p) env v = (do
      let ov ← holding [v] (eval o env)
      let iv ← holding [v, ov] (eval i env)
      standAt p
      holding [v, ov, iv] (setItem ov iv v)
      release [v, ov, iv] []) := by
  cases i <;> first | rfl | cases h
theorem aug_store {i : Expr} {ov iv new : Value} (h : noSlice i = true) : augStore i ov iv new = (do holding [new, ov, iv] (setItem ov iv new); release [new, ov, iv] []; pure .next) := by
  cases i <;> first | rfl | cases h
theorem s_ixset (hu : X.A.units + 66 < cLine) {o k v : Expr} {p : Pos} {fo fk fv : List (Option D) → Sto → Res D} (hns : noSlice k = true) (ho : PE X o (tE X cl W fo)) (hk : PE X k (tE X cl W fk)) (hv : PE X v (tE X cl W fv)) :
    PS X (.Assign [.Subscript o k p] v pos) (tS X cl W fun ρ S => (fv ρ S).out ρ fun dv S => (frz S dv).out ρ fun x S => (fo ρ S).out ρ fun d S => (fk ρ S).out ρ fun dk S => match d, dk with
    | .box n, .p kx => match S[n]? with
      | some (some ob) => match setO ob kx x with
        | some ob' => .next ρ (S.set n (some ob'))
        | none => .bad
      | _ => .bad
    | _, _ => .bad) := by
  refine (ps_asg hv (pg_sub ho hk (set_any hu) fun _ => asg_sub hns) (swaps_sub : swapsWith v (some (.Subscript o k p)) pos.line X.env = pure false) swst_sub).imp fun E σ H ⟨ρ, S, μ, F, B, r, h⟩ => outE B r h fun x H1 dv S1 μ1 B1 f1 r1 rv h1 => ?_
  obtain ⟨p, S2, e2, B2, f2, rp, h2⟩ := SatO.frz B1 rv r1 h1
  have r2 := r1.mono f2.pre f2.gle (cl := cl)
  refine outE B2 r2 h2 fun y H3 d S3 μ3 B3 f3 r3 rd h3 => outE B3 r3 h3 fun z H4 dk S4 μ4 B4 f4 r4 rk h4 => ?_
  cases d with
  | p q => exact h4.elim
  | box n =>
    cases dk with
    | box m => exact h4.elim
    | p kx =>
      dsimp only at h4
      obtain ⟨a, rfl, hn⟩ := rd
      have hn4 : μ4[n]? = some a := pre_get f4.pre hn
      cases hs : S4[n]? with
      | none => simp only [hs] at h4; exact h4.elim
      | some oo =>
        cases oo with
        | none => simp only [hs] at h4; exact h4.elim
        | some ob =>
          simp only [hs] at h4
          cases hso : setO ob kx p with
          | none => rw [hso] at h4; exact h4.elim
          | some ob' =>
            rw [hso] at h4
            refine set_step B4 hn4 hs rk (Rep.mono f4.gle _ _ (Rep.mono f3.gle _ _ rp)) hso fun H5 B5 f5 => ?_
            exact h4 σ μ4 H5 B5 f5 (r4.mono f5.pre f5.gle)
/-! ### o[k] op= v -/
def rGet (K : PySem.W.Frag) : V → V → Hp → VK → Prop := fun o i H Q => (∃ a xs k w, o = .ref a ∧ i = .int k ∧ SqL K H a xs ∧ atI xs k = some w ∧ Q w H) ∨ ∃ a w, o = .ref a ∧ DGet H a i (some w) ∧ Q w H
theorem ixN_cases {n : Nat} {k : Int} {j : Nat} (h : ixN n k = some j) : (0 ≤ k ∧ k < n ∧ j = k.toNat) ∨ (k < 0 ∧ -(n : Int) ≤ k ∧ j = (k + n).toNat) := by
  unfold ixN at h
  by_cases h0 : 0 ≤ k
  · rw [if_pos h0] at h
    by_cases h1 : k < n
    · rw [if_pos h1] at h
      exact .inl ⟨h0, h1, (Option.some.inj h).symm⟩
    · rw [if_neg h1] at h; cases h
  · rw [if_neg h0] at h
    by_cases h1 : -(n : Int) ≤ k
    · rw [if_pos h1] at h
      exact .inr ⟨by omega, h1, (Option.some.inj h).symm⟩
    · rw [if_neg h1] at h; cases h
theorem get_any (hu : X.A.units + 66 < cLine) : PGet X (rGet X.K) := by
  intro pins s σ H o i ov iv Q I ro ri h
  rcases h with ⟨a, xs, k, w, rfl, rfl, hq, hat, q⟩ | ⟨a, w, rfl, hd, q⟩
  · obtain rfl : ov = Value.ref a := ro
    obtain ⟨t, rfl⟩ := ri
    obtain ⟨its, rv, p, hz⟩ := I.list hq
    have hl := rv.length
    have hn := line63
    unfold atI at hat
    cases hi : ixN xs.length k with
    | none => rw [hi] at hat; cases hat
    | some j =>
      rw [hi] at hat
      obtain ⟨u, hu2, ru⟩ := rv.get hat
      have fin : EP X pins σ Q u s := ⟨w, H, I, ru, q⟩
      rcases ixN_cases hi with ⟨h0, h1, hk⟩ | ⟨h0, h1, hk⟩
      · exact wpAny_getItem_list p.isList h0 (by omega) (x := u) (by rw [← hk]; simpa using hu2) fin
      · exact wpAny_getItem_list_neg p.isList h0 (by rw [List.size_toArray, ← hl]; exact h1) (by omega) (x := u) (by rw [List.size_toArray, ← hl, ← hk]; simpa using hu2) fin
  · obtain rfl : ov = Value.ref a := ro
    exact d_getItem (by omega) I hd ri fun w' s3 I3 rw' => ⟨w, H, I3, rw', q⟩
theorem s_ixaug (hu : X.A.units + 66 < cLine) {q : Op2} {op : Operator} (hop : opOf op = some q) {o k v : Expr} {p : Pos} {fo fk fv : List (Option D) → Sto → Res D} (hns : noSlice k = true) (ho : PE X o (tE X cl W fo)) (hk : PE X k (tE X cl W fk)) (hv : PE X v (tE X cl W fv)) :
    PS X (.AugAssign (.Subscript o k p) op v pos) (tS X cl W fun ρ S => (fo ρ S).out ρ fun d S => (fk ρ S).out ρ fun dk S => match d, dk with
    | .box n, .p kx => match (view S d).bind fun ob => prim2 .ix ob kx with
      | some old => (fv ρ S).out ρ fun dv S => match dv with
        | .p y => match augP q old y, S[n]? with
          | some z, some (some ob) => match setO ob kx z with
            | some ob' => .next ρ (S.set n (some ob'))
            | none => .bad
          | _, _ => .bad
        | _ => .bad
      | none => .bad
    | _, _ => .bad) := by
  refine (ps_augS ho hk (get_any hu) hv (ip_aug hop) (set_any hu) fun _ _ _ => aug_store hns).imp fun E σ H ⟨ρ, S, μ, F, B, r, h⟩ => ?_
  refine outE B r h fun y H3 d S3 μ3 B3 f3 r3 rd h3 => outE B3 r3 h3 fun z H4 dk S4 μ4 B4 f4 r4 rk h4 => ?_
  cases d with
  | p q => exact h4.elim
  | box n =>
    cases dk with
    | box m => exact h4.elim
    | p kx =>
      dsimp only at h4
      obtain ⟨a, rfl, hn⟩ := rd
      have hn4 : μ4[n]? = some a := pre_get f4.pre hn
      cases ho : (view S4 (.box n)).bind fun ob => prim2 .ix ob kx with
      | none => rw [ho] at h4; exact h4.elim
      | some old =>
        rw [ho] at h4
        dsimp only at h4
        obtain ⟨ob, hvw, hix⟩ := Option.bind_eq_some_iff.mp ho
        have vb := view_vw (d := .box n) (v := .ref a) B4 ⟨a, rfl, hn4⟩ hvw
        -- what goes on with the old item
        have go : ∀ w, Rep X.K cl (Gz F μ4 S4 H4) old w → tE X cl W fv σ H4 fun y H5 => rAug q w y H5 fun z' H6 => rSet (.ref a) z z' H6 fun H7 => E.nx σ H7 := fun w rw' => by
          refine outE B4 r4 h4 fun y H5 dv S5 μ5 B5 f5 r5 rv h5 => ?_
          cases dv with
          | box m => exact h5.elim
          | p yv =>
            dsimp only at h5
            cases ha : augP q old yv with
            | none => rw [ha] at h5; exact h5.elim
            | some zz =>
              rw [ha] at h5
              obtain ⟨a1, a2, a3⟩ := aug_flat (cl := cl) ha
              refine ⟨old, yv, zz, ha, a2 rw', a3 rv, ?_⟩
              have hn5 : μ5[n]? = some a := pre_get f5.pre hn4
              cases hs : S5[n]? with
              | none => simp only [hs] at h5; exact h5.elim
              | some oo =>
                cases oo with
                | none => simp only [hs] at h5; exact h5.elim
                | some ob2 =>
                  simp only [hs] at h5
                  cases hso : setO ob2 kx zz with
                  | none => rw [hso] at h5; exact h5.elim
                  | some ob' =>
                    rw [hso] at h5
                    refine set_step B5 hn5 hs (Rep.mono f5.gle _ _ rk) a1 hso fun H6 B6 f6 => ?_
                    exact h5 σ μ5 H6 B6 f6 (r5.mono f6.pre f6.gle)
        cases ob <;> first | (cases kx <;> (cases hix; done)) | skip
        · simp only [view] at hvw
          split at hvw
          · rename_i o2 _
            cases o2 <;> simp only [cont] at hvw <;> first | (cases hvw; done) | (obtain ⟨_, _, hvw⟩ := Option.map_eq_some_iff.mp hvw; cases hvw)
          · cases hvw
        · simp only [view] at hvw
          split at hvw
          · rename_i o2 _
            cases o2 <;> simp only [cont] at hvw <;> first | (cases hvw; done) | (obtain ⟨_, _, hvw⟩ := Option.map_eq_some_iff.mp hvw; cases hvw)
          · cases hvw
        · cases kx <;> first | (cases hix; done) | skip
          obtain ⟨b, xs, e, hb, rl⟩ := vb
          cases e
          obtain ⟨w, hw, rw'⟩ := atI_rep rl hix
          exact .inl ⟨a, xs, _, w, rfl, rk, .inl (.inl hb), hw, go w rw'⟩
        · simp only [view] at hvw
          split at hvw
          · rename_i o2 _
            cases o2 <;> simp only [cont] at hvw <;> first | (cases hvw; done) | (obtain ⟨_, _, hvw⟩ := Option.map_eq_some_iff.mp hvw; cases hvw)
          · cases hvw
        · simp only [view] at hvw
          split at hvw
          · rename_i o2 _
            cases o2 <;> simp only [cont] at hvw <;> first | (cases hvw; done) | (obtain ⟨_, _, hvw⟩ := Option.map_eq_some_iff.mp hvw; cases hvw)
          · cases hvw
        · have e : ∀ ks vs, prim2 .ix (.dk ks vs) kx = (keyOf kx).bind (look ks vs) := fun ks vs => by cases kx <;> rfl
          rw [e] at hix
          obtain ⟨kk, hk, hl⟩ := Option.bind_eq_some_iff.mp hix
          obtain ⟨b, kvs, e2, hb, ek, rl⟩ := vb
          cases e2
          have ei := key_of hk (vw_rep rk gz_gle)
          subst ei
          obtain ⟨w, hw, rw'⟩ := (look_val (x := kk) ek rl).1 _ hl
          exact .inr ⟨a, w, rfl, .inl ⟨kvs, kk, hb, rfl, hw.symm⟩, go w rw'⟩
        · have e : ∀ ks vs, prim2 .ix (.dt ks vs) kx = (tkeyOf kx).bind (look ks vs) := fun ks vs => by cases kx <;> rfl
          rw [e] at hix
          obtain ⟨kk, hk, hl⟩ := Option.bind_eq_some_iff.mp hix
          obtain ⟨b, kvs, e2, hb, ek, rl⟩ := vb
          cases e2
          cases kx <;> first | (cases hk; done) | skip
          obtain ⟨c, ys, rfl, hc, rc⟩ := rk
          have ei := keys_of hk rc
          subst ei
          obtain ⟨w, hw, rw'⟩ := (look_val (x := kk) ek rl).1 _ hl
          exact .inr ⟨a, w, rfl, .inr ⟨kvs, kk, c, hb, rfl, gz_gle.ex c (.tup _) trivial hc, hw.symm⟩, go w rw'⟩
/-! ### o.f = v -/
theorem putF_rep {K : PySem.W.Frag} {μ : List Addr} {G : Hp} {f : Str} {dv : D} {y : V} (rv : RepD K cl μ G dv y) : ∀ {ys : List (Str × V)} {ns : List Str} {vs : List D}, ys.map (·.1) = ns → RepDL K cl μ G vs (ys.map (·.2)) → ns.Nodup →
    (match (ns.zip vs).lookup f with
      | some _ => (putF f y ys).map (·.1) = ns ∧ RepDL K cl μ G ((ns.zip vs).map fun kv => if kv.1 = f then dv else kv.2) ((putF f y ys).map (·.2))
      | none => (putF f y ys).map (·.1) = ns ++ [f] ∧ RepDL K cl μ G (vs ++ [dv]) ((putF f y ys).map (·.2)))
  | [], ns, vs, h, r, nd => by
    cases h
    have : vs = [] := by cases vs with | nil => rfl | cons _ _ => obtain ⟨_, _, e, _⟩ := r; cases e
    subst this
    exact ⟨rfl, y, [], rfl, rv, rfl⟩
  | (n, v) :: ys, ns, vs, h, r, nd => by
    cases h
    cases vs with
    | nil => cases (show (v :: _ : List V) = [] from r)
    | cons q0 vs =>
      obtain ⟨v', t, e, r1, r2⟩ := r
      cases e
      have nd' := List.nodup_cons.mp nd
      have ih := putF_rep (f := f) rv (ys := ys) rfl r2 nd'.2
      have e0 : ((n, v) :: ys).map (·.1) = n :: ys.map (·.1) := rfl
      have e1 : (n :: ys.map (·.1)).zip (q0 :: vs) = (n, q0) :: (ys.map (·.1)).zip vs := rfl
      rw [e0, e1]
      by_cases c : n = f
      · subst c
        have l : ((n, q0) :: (ys.map (·.1)).zip vs).lookup n = some q0 := by simp [List.lookup]
        rw [l]
        dsimp only
        have e2 : putF n y ((n, v) :: ys) = (n, y) :: ys := by show (if n = n then _ else _) = _; rw [if_pos rfl]
        rw [e2]
        refine ⟨rfl, ?_⟩
        have e3 : ((ys.map (·.1)).zip vs).map (fun kv => if kv.1 = n then dv else kv.2) = vs := by
          have hl : (ys.map (·.1)).length = vs.length := by rw [List.length_map, r2.len, List.length_map]
          have : ∀ (ks : List Str) (vs : List D), ks.length = vs.length → n ∉ ks → (ks.zip vs).map (fun kv => if kv.1 = n then dv else kv.2) = vs := by
            intro ks
            induction ks with
            | nil => intro vs h _; cases vs with | nil => rfl | cons _ _ => cases h
            | cons k ks ih =>
              intro vs h hn
              cases vs with
              | nil => cases h
              | cons v vs =>
                rw [List.mem_cons, not_or] at hn
                show (if k = n then dv else v) :: (ks.zip vs).map _ = _
                rw [if_neg (fun e => hn.1 e.symm), ih vs (by simpa using h) hn.2]
          exact this _ _ hl nd'.1
        show RepDL K cl μ G ((if n = n then dv else q0) :: ((ys.map (·.1)).zip vs).map _) _
        rw [if_pos rfl, e3]
        exact ⟨y, _, rfl, rv, r2⟩
      · have l : ((n, q0) :: (ys.map (·.1)).zip vs).lookup f = ((ys.map (·.1)).zip vs).lookup f := by
          have b : (f == n) = false := by simpa using fun z => c z.symm
          simp [List.lookup, b]
        have e2 : putF f y ((n, v) :: ys) = (n, v) :: putF f y ys := by show (if n = f then _ else _) = _; rw [if_neg c]
        rw [l, e2]
        cases hl : ((ys.map (·.1)).zip vs).lookup f with
        | some q =>
          rw [hl] at ih
          dsimp only at ih ⊢
          refine ⟨by show n :: (putF f y ys).map (·.1) = _; rw [ih.1], ?_⟩
          show RepDL K cl μ G ((if n = f then dv else q0) :: _) (v :: (putF f y ys).map (·.2))
          rw [if_neg c]
          exact ⟨v, _, rfl, r1, ih.2⟩
        | none =>
          rw [hl] at ih
          dsimp only at ih ⊢
          exact ⟨by show n :: (putF f y ys).map (·.1) = _; rw [ih.1]; rfl, v, _, rfl, r1, ih.2⟩
theorem s_fset {c0 : Nat} {at_ : Str} {o v : Expr} {p : Pos} {fo fv : List (Option D) → Sto → Res D} (hc : Cls X.K (cl c0)) (hna : NoAttr X.K (cl c0) at_) (ho : PE X o (tE X cl W fo)) (hv : PE X v (tE X cl W fv)) :
    PS X (.Assign [.Attribute o at_ p] v pos) (tS X cl W fun ρ S => (fv ρ S).out ρ fun dv S => (fo ρ S).out ρ fun d S => match d with
    | .box n => match S[n]? with
      | some (some (.ins c ns vs)) => if c == c0 && decide (ns.length < 999) && decide ns.Nodup then (match (ns.zip vs).lookup at_ with
        | some _ => .next ρ (S.set n (some (.ins c ns ((ns.zip vs).map fun kv => if kv.1 = at_ then dv else kv.2))))
        | none => .next ρ (S.set n (some (.ins c (ns ++ [at_]) (vs ++ [dv]))))) else .bad
      | _ => .bad
    | _ => .bad) := by
  refine (ps_fld ho hv swaps_att).imp fun E σ H ⟨ρ, S, μ, F, B, r, h⟩ => outE B r h fun y H1 dv S1 μ1 B1 f1 r1 rv h1 => outE B1 r1 h1 fun x H2 d S2 μ2 B2 f2 r2 rd h2 => ?_
  cases d with
  | p q => exact h2.elim
  | box n =>
    obtain ⟨a, rfl, hn⟩ := rd
    dsimp only at h2
    cases hs : S2[n]? with
    | none => simp only [hs] at h2; exact h2.elim
    | some oo =>
      cases oo with
      | none => simp only [hs] at h2; exact h2.elim
      | some ob =>
        simp only [hs] at h2
        have qo := B2.obj n a ob hn hs
        cases ob <;> first | exact h2.elim | skip
        rename_i c ns vs
        dsimp only at h2
        split at h2
        · rename_i hcc
          simp only [Bool.and_eq_true, beq_iff_eq, decide_eq_true_eq] at hcc
          obtain ⟨⟨rfl, hlt⟩, hnd⟩ := hcc
          obtain ⟨dx, ys, hH, hk, rl⟩ := qo
          refine ⟨a, cl c, dx, ys, rfl, hH, hc, hna, by rw [← List.length_map (f := (·.1)), hk]; omega, ?_⟩
          have pr := putF_rep (f := at_) (rv.mono f2.pre f2.gle (cl := cl)) hk rl hnd
          cases hl : (ns.zip vs).lookup at_ with
          | some q =>
            rw [hl] at pr h2
            dsimp only at pr h2
            obtain ⟨B4, f4⟩ := B2.write (x := .ins c ns ((ns.zip vs).map fun kv => if kv.1 = at_ then dv else kv.2)) (u := .ins (cl c) dx (putF at_ y ys)) hn hs ⟨dx, _, upd_same, pr.1, pr.2⟩
            exact h2 σ μ2 _ B4 f4 (r2.mono f4.pre f4.gle)
          | none =>
            rw [hl] at pr h2
            dsimp only at pr h2
            obtain ⟨B4, f4⟩ := B2.write (x := .ins c (ns ++ [at_]) (vs ++ [dv])) (u := .ins (cl c) dx (putF at_ y ys)) hn hs ⟨dx, _, upd_same, pr.1, pr.2⟩
            exact h2 σ μ2 _ B4 f4 (r2.mono f4.pre f4.gle)
        · exact h2.elim
/-! ### loops -/
theorem s_while {c : Expr} {body : List Stmt} {fuel : Nat} {fc : List (Option D) → Sto → Res Bool} (hp : PassesOwn (model X.prog X.w) X.A X.env X.xe) (hc : PT X c (tT X cl W fc)) (hb : PSs X body (tS X cl W f)) :
    PS X (.While c body [] pos) (tS X cl W fun ρ S => whileO fc f fuel ρ S) := by
  refine (ps_while hp hc hb).imp fun E σ H ⟨ρ, S, μ, F, B, r, h⟩ => ?_
  refine ⟨fun m σ H => ∃ ρ S μ, Bears X.K cl F μ H S ∧ RepS X.K cl μ (Gz F μ S H) σ ρ ∧ SatO X.K cl F μ S H W E (whileO fc f m ρ S), ⟨fuel, ρ, S, μ, B, r, h⟩, ?_⟩
  rintro m σ H ⟨ρ, S, μ, B, r, h⟩
  cases m with
  | zero => exact h.elim
  | succ m =>
    have h' : SatO X.K cl F μ S H W E ((fc ρ S).out ρ fun b S => if b then (f ρ S).andThen fun ρ S => whileO fc f m ρ S else .next ρ S) := h
    refine outT B r h' fun b H1 S1 μ1 B1 f1 r1 h1 => ?_
    cases b with
    | false => exact h1 σ μ1 H1 B1 Fra.refl r1
    | true =>
      rw [if_pos rfl]
      refine ⟨fun σ H => ∃ ρ S μ, Bears X.K cl F μ H S ∧ RepS X.K cl μ (Gz F μ S H) σ ρ ∧ SatO X.K cl F μ S H W E (whileO fc f m ρ S), fun σ' H' z => ⟨m, Nat.lt_succ_self _, z⟩, ρ, S1, μ1, F, B1, r1, ?_⟩
      exact SatO.seq h1 rfl fun σ' μ' H' ρ' S' B' f' rs h' => ⟨ρ', S', μ', B', rs, h'⟩
theorem s_for {tge iter : Expr} {body : List Stmt} {tg : Tg} {fs : List (Option D) → Sto → Res (List P)} (hp : PassesOwn (model X.prog X.w) X.A X.env X.xe) (hc : X.calm = true) (hi : PI X tge iter (tI X cl W fs)) (hg : PG X tge (gT X.K tg)) (hb : PSs X body (tS X cl W f))
    (hs : ∀ x, foldedSetIterable iter X.env x = pure x) :
    PS X (.For tge iter body [] pos) (tS X cl W fun ρ S => (fs ρ S).out ρ fun items S => forO (fun x ρ S => match setTg tg x ρ with
      | some ρ => f ρ S
      | none => .bad) items ρ S) := by
  refine (ps_for hp hc hi hg hb hs).imp fun E σ H ⟨ρ, S, μ, F, B, r, h⟩ => ?_
  refine ⟨ρ, S, μ, F, B, r, Sat.mono (SatO.out r h) fun J H1 ⟨items, S1, μ1, B1, f1, wk, h1⟩ => ?_⟩
  refine ⟨fun i m σ H => m = items.length - i ∧ i ≤ items.length ∧ ∃ ρ S μ, Bears X.K cl F μ H S ∧ Gle (Gz F μ1 S1 H1) (Gz F μ S H) ∧ RepS X.K cl μ (Gz F μ S H) σ ρ ∧ SatO X.K cl F μ S H W E (forO (fun x ρ S => match setTg tg x ρ with
      | some ρ => f ρ S
      | none => .bad) (items.drop i) ρ S), ⟨items.length, by simp, Nat.zero_le _, ρ, S1, μ1, B1, Gle.refl _, r.mono f1.pre f1.gle, h1⟩, ?_⟩
  rintro i m σ H ⟨rfl, hle, ρ, S, μ, B, g, r, h⟩
  obtain ⟨wstop, wgo⟩ := wk i F μ S H B g
  by_cases hlt : i < items.length
  · right
    obtain ⟨go, yl⟩ := wgo items[i] (by simp [hlt])
    have hdr : items.drop i = items[i] :: items.drop (i + 1) := (List.getElem_cons_drop hlt).symm
    rw [hdr] at h
    refine ⟨go, fun σ H => ∃ ρ S μ, Bears X.K cl F μ H S ∧ Gle (Gz F μ1 S1 H1) (Gz F μ S H) ∧ RepS X.K cl μ (Gz F μ S H) σ ρ ∧ SatO X.K cl F μ S H W E (forO (fun x ρ S => match setTg tg x ρ with
      | some ρ => f ρ S
      | none => .bad) (items.drop (i + 1)) ρ S), fun σ' H' z => ⟨items.length - (i + 1), by omega, rfl, hlt, z⟩, fun x H' yy => ?_⟩
    obtain ⟨B4, f4, rp⟩ := yl x H' yy
    have h4 := SatO.later f4 h
    simp only [forO] at h4
    cases hst : setTg tg items[i] ρ with
    | none => rw [hst] at h4; exact h4.elim
    | some ρ' =>
      rw [hst] at h4
      refine setTg_rep (r.mono f4.pre f4.gle) rp gz_gle hst fun σ' rs' _ => ⟨ρ', S, μ, F, B4, rs', ?_⟩
      exact SatO.seq h4 rfl fun σ2 μ2 H2 ρ2 S2 B2 f2 rs2 h2 => ⟨ρ2, S2, μ2, B2, g.trans (f4.gle.trans f2.gle), rs2, h2⟩
  · left
    have e : i = items.length := by omega
    subst e
    rw [List.drop_length] at h
    exact ⟨wstop (Nat.le_refl _), h σ μ H B Fra.refl r⟩
end
/-! ### a def by its body -/
theorem num_len : ∀ (as : List Arg) (k : Nat), (numA k as).length = as.length
  | [], _ => rfl
  | .p _ :: as, k => by show (numA k as).length + 1 = _; rw [num_len as k]; rfl
  | .o _ :: as, k => by show (numA (k + 1) as).length + 1 = _; rw [num_len as]; rfl
section
variable {K : PySem.W.Frag} {cl : Nat → Addr}
theorem all_some (os : List O) : ∀ j, j < (os.map some).length → ∃ o, (os.map some)[j]? = some (some o) := fun j hj => by
  rw [List.length_map] at hj
  exact ⟨os[j], by simp [hj]⟩
/-- the boxes of a def's own are let go -/
theorem cut_own {F μ μ' : List Addr} {S S' : Sto} {H H' : Hp} {os : List O} (B0 : Bears K cl F μ H S) (hS : ∀ j, j < S.length → ∃ o, S[j]? = some (some o)) (B : Bears K cl F μ' H' S') (f : Fra μ S H μ' S' H') (hl : os.length = S.length) (ht : S'.take S.length = os.map some) (hp : os.all O.pure = true) :
    Bears K cl F μ H' (os.map some) ∧ Fra μ S H μ (os.map some) H' ∧ Gle (Gz F μ' S' H') (Gz F μ (os.map some) H') := by
  have get : ∀ (n : Nat) (o : O), (os.map some)[n]? = some (some o) → S'[n]? = some (some o) := fun n o e => by
    rw [← ht] at e
    by_cases c : n < S.length
    · rwa [List.getElem?_take_of_lt c] at e
    · rw [List.getElem?_eq_none (by rw [List.length_take]; omega)] at e
      cases e
  have lv : ∀ a, Liv μ (os.map some) a → Liv μ' S' a := fun a ⟨n, o, e1, e2⟩ => ⟨n, o, pre_get f.pre e1, get n o e2⟩
  have gl : Gle (Gz F μ' S' H') (Gz F μ (os.map some) H') := Gle.of fun a u h => by
    obtain ⟨h1, h2, h3⟩ := gz_some h
    rw [gz_of (fun z => h1 (lv a z)) h2]
    exact h3
  have lS : ∀ a, Liv μ (os.map some) a → Liv μ S a := fun a ⟨n, o, e1, e2⟩ => by
    have hn : n < S.length := by rw [← hl]; have := (List.getElem?_eq_some_iff.mp e2).1; simpa using this
    obtain ⟨o', ho'⟩ := hS n hn
    exact ⟨n, o', e1, ho'⟩
  refine ⟨⟨by rw [List.length_map, hl]; exact B0.len, B0.nd, fun n a o hn ho => ?_, fun n a hn => B.dom n a (pre_get f.pre hn), B0.nf, fun a z => B.hd a z⟩, ⟨List.prefix_refl _, fun a u h e => ⟨(f.keep a u h e).1, fun z => h (lS a z)⟩, f.dom⟩, gl⟩
  have q := B.obj n a o (pre_get f.pre hn) (get n o ho)
  have pu : o.pure = true := by
    rw [List.all_eq_true] at hp
    rw [List.getElem?_map] at ho
    obtain ⟨o2, e1, e2⟩ := Option.map_eq_some_iff.mp ho
    cases e2
    exact hp _ (List.mem_of_getElem? e1)
  exact ObjAt.pure pu (q.mono (List.prefix_refl _) gl fun _ e => e)
/-- an end, by what the body's run says -/
theorem says_sat {F μ : List Addr} {S : Sto} {H : Hp} {W : XK} {Q : VK} {r : Res D} {lr : LR} (B0 : Bears K cl F μ H S) (hS : ∀ j, j < S.length → ∃ o, S[j]? = some (some o)) (h : Says r S.length lr) (w : Sat K cl F μ S H (RD K cl) (resL S.length lr) W Q) : Sat K cl F μ S H (RD K cl) r W Q := by
  cases lr with
  | bad => exact w.elim
  | rse c ns vs os =>
    obtain ⟨S', rfl, hl, ht⟩ := h
    simp only [resL] at w
    split at w
    · rename_i hc
      intro dd μ' H' B f rx
      obtain ⟨B2, f2, gl⟩ := cut_own B0 hS B f hl ht hc.2
      exact w dd μ H' B2 f2 (rx.elim .inl fun ⟨d, fs, e1, e2, e3, e4⟩ => .inr ⟨d, fs, e1, e2, e3, RepL.mono gl _ _ e4⟩)
    · exact w.elim
  | ok ra os =>
    cases ra with
    | p x =>
      obtain ⟨S', rfl, hl, ht⟩ := h
      simp only [resL] at w
      split at w
      · rename_i hc
        intro v μ' H' B f rx
        obtain ⟨B2, f2, gl⟩ := cut_own B0 hS B f hl ht hc.2
        exact w v μ H' B2 f2 (Rep.mono gl _ _ rx)
      · exact w.elim
    | o o =>
      obtain ⟨m, S', rfl, hl, ht, hm, hs⟩ := h
      simp only [resL] at w
      split at w
      · rename_i hc
        intro v μ' H' B f rx
        obtain ⟨a, rfl, ha⟩ := rx
        obtain ⟨B2, f2, gl⟩ := cut_own B0 hS B f hl ht hc.2.1
        have na : a ∉ μ := fun z => by
          obtain ⟨j, hj⟩ := List.mem_iff_getElem?.mp z
          have e := nd_eq B.nd ha (pre_get f.pre hj)
          have := (List.getElem?_eq_some_iff.mp hj).1
          have := B0.len
          omega
        have la : Liv μ' S' a := ⟨m, o, ha, hs⟩
        have lvA : ∀ b, Liv (μ ++ [a]) (os.map some ++ [some o]) b → Liv μ' S' b := fun b z => by
          rcases liv_app (by rw [List.length_map, hl]; exact B0.len) z with ⟨n, x, e1, e2⟩ | z
          · refine ⟨n, x, pre_get f.pre e1, ?_⟩
            rw [← ht] at e2
            by_cases c : n < S.length
            · rwa [List.getElem?_take_of_lt c] at e2
            · rw [List.getElem?_eq_none (by rw [List.length_take]; omega)] at e2
              cases e2
          · rw [z]; exact la
        have gl2 : Gle (Gz F μ' S' H') (Gz F (μ ++ [a]) (os.map some ++ [some o]) H') := Gle.of fun b u h => by
          obtain ⟨h1, h2, h3⟩ := gz_some h
          rw [gz_of (fun z => h1 (lvA b z)) h2]
          exact h3
        have hlen : μ.length = os.length := by rw [B0.len, hl]
        have B3 : Bears K cl F (μ ++ [a]) H' (os.map some ++ [some o]) := by
          refine ⟨by simp [hlen], ?_, fun n b x hn hx => ?_, fun n b hn => ?_, fun n b hn => ?_, fun b z => B.hd b z⟩
          · rw [List.nodup_append]
            exact ⟨B0.nd, by simp, fun x hx y hy => by simp at hy; subst hy; exact fun e => na (e ▸ hx)⟩
          · by_cases c : n < μ.length
            · rw [List.getElem?_append_left c] at hn
              rw [List.getElem?_append_left (by rw [List.length_map, ← hlen]; exact c)] at hx
              have q := B.obj n b x (pre_get f.pre hn) (by
                rw [← ht, List.getElem?_take_of_lt (by rw [← B0.len]; exact c)] at hx
                exact hx)
              have pu : x.pure = true := by
                have hp := hc.2.1
                rw [List.all_eq_true] at hp
                rw [List.getElem?_map] at hx
                obtain ⟨o2, e1, e2⟩ := Option.map_eq_some_iff.mp hx
                cases e2
                exact hp _ (List.mem_of_getElem? e1)
              exact ObjAt.pure pu (q.mono (List.prefix_refl _) gl2 fun _ e => e)
            · rw [List.getElem?_append_right (by omega)] at hn
              rw [List.getElem?_append_right (by rw [List.length_map]; omega)] at hx
              have e1 := (List.getElem?_eq_some_iff.mp hn).2
              have e2 := (List.getElem?_eq_some_iff.mp hx).2
              simp at e1 e2
              subst e1; subst e2
              exact ObjAt.pure hc.2.2 ((B.obj m _ _ ha hs).mono (List.prefix_refl _) gl2 fun _ e => e)
          · by_cases c : n < μ.length
            · rw [List.getElem?_append_left c] at hn
              exact B.dom n b (pre_get f.pre hn)
            · rw [List.getElem?_append_right (by omega)] at hn
              have e1 := (List.getElem?_eq_some_iff.mp hn).2
              simp at e1
              subst e1
              exact B.dom m _ ha
          · by_cases c : n < μ.length
            · rw [List.getElem?_append_left c] at hn
              exact B0.nf n b hn
            · rw [List.getElem?_append_right (by omega)] at hn
              have e1 := (List.getElem?_eq_some_iff.mp hn).2
              simp at e1
              subst e1
              exact B.nf m _ ha
        exact w (.ref a) (μ ++ [a]) H' B3 ⟨List.prefix_append _ _, fun b u h e => ⟨(f.keep b u h e).1, fun z => (f.keep b u h e).2 (lvA b z)⟩, f.dom⟩ ⟨a, rfl, by rw [← hlen]; simp⟩
      · exact w.elim
theorem boxes_some : ∀ (as : List Arg) (j : Nat), j < (boxesA as).length → ∃ o, (boxesA as)[j]? = some (some o)
  | [], j, h => absurd h (by simp [boxesA])
  | .p _ :: as, j, h => boxes_some as j h
  | .o o :: as, 0, h => ⟨o, rfl⟩
  | .o o :: as, j + 1, h => by
    obtain ⟨o', e⟩ := boxes_some as j (by simpa [boxesA] using h)
    exact ⟨o', by show (some o :: boxesA as)[j + 1]? = _; simpa using e⟩
end
section
variable {P : Program} {w : World} {K : PySem.W.Frag} {mg : Str → Option Value} {base : Heap} {cl : Nat → Addr} {Φ : Nat → List Arg → LR} {fuel : Nat}
/-- THE RULE: a def's promise by its body -/
theorem fn_by {x qual : Str} {st : Stmt} {f : Addr} {fd : FuncData} {N ps : List Str} {k : Nat} {b : IB} {Fn : List Arg → LR} (Fd : C8.Fun K x qual st f fd) (S : FnScope N ps (C8.fnScope st))
    (hbody : ∀ X : Cx, X.prog = P → X.w = w → X.K = K → X.mg = mg → X.base = base → X.N = N → X.env.scope = C8.fnScope st → X.calm = true → (∀ y, X.fn y = true) → Room k X.A → PassesOwn (model X.prog X.w) X.A X.env X.xe → ∀ W, Takes X W → PSs X (C8.fnBody st) (tS X cl W (exs Φ fuel b)))
    (hlen : ∀ as, Fn as ≠ .bad → as.length = ps.length) (hs : ∀ as, as.length = ps.length → Says (runB Φ fuel b N.length (numA 0 as) (boxesA as)) (boxesA as).length (Fn as)) : FnOk P w K mg base (L2.CX P w) (k + 1) f fd ps (spL K cl Fn) := by
  obtain ⟨oc, od, dV, kV, doc, pm, an, cdv, ct, osl, rfl, lk, hcd⟩ := Fd.ex
  have lenOf : ∀ as (F μ : List Addr) (H : Hp) (E : XK) (Q : VK), Sat K cl F μ (boxesA as) H (RD K cl) (resL (boxesA as).length (Fn as)) E Q → as.length = ps.length := fun as F μ H E Q h => hlen as fun e => by
    rw [e] at h
    exact h.elim
  have len : ∀ vs H Q E, spL K cl Fn vs H Q E → vs.length = ps.length := fun vs H Q E ⟨F, μ, as, B, r, pu, h⟩ => by
    rw [← r.len, num_len]
    exact lenOf as F μ H E Q h
  refine fn_of lk hcd S len fun A outer s H vs Q E hr hsp => ?_
  obtain ⟨F, μ, as, B, r, pu, h⟩ := hsp
  have hal := lenOf as F μ H E Q h
  have tk := takes_of (X := cxOf (L2.CX P w) P w K mg base N qual (C8.fnScope st) f cdv A outer s H E) (E := E) rfl rfl rfl rfl
  refine ⟨_, hbody (cxOf (L2.CX P w) P w K mg base N qual (C8.fnScope st) f cdv A outer s H E) rfl rfl rfl rfl rfl rfl rfl rfl (fun _ => rfl) hr (passes_of rfl) _ tk, ?_⟩
  have hv : vs.length = as.length := by rw [← r.len, num_len]
  refine ⟨(numA 0 as).map some ++ List.replicate (N.length - (numA 0 as).length) none, boxesA as, μ, F, B, ?_, ?_⟩
  · -- the names
    refine ⟨by unfold L2.start; simp [num_len, hv], fun i d e => ?_⟩
    have hi : i < (numA 0 as).length := by
      by_cases c : i < (numA 0 as).length
      · exact c
      · rw [List.getElem?_append_right (by simpa using c), List.getElem?_replicate] at e
        split at e <;> cases e
    rw [List.getElem?_append_left (by simpa using hi), List.getElem?_map] at e
    obtain ⟨d2, e2, e3⟩ := Option.map_eq_some_iff.mp e
    cases e3
    have get : ∀ {l : List D} {xs : List V} {i : Nat} {d : D}, RepDL K cl μ (Gz F μ (boxesA as) H) l xs → l[i]? = some d → ∃ v, xs[i]? = some v ∧ RepD K cl μ (Gz F μ (boxesA as) H) d v := by
      intro l
      induction l with
      | nil => intro xs i d _ h; simp at h
      | cons q l ih =>
        intro xs i d r h
        obtain ⟨v, t, e, r1, r2⟩ := r
        subst e
        cases i with
        | zero => simp at h; subst h; exact ⟨v, rfl, r1⟩
        | succ i =>
          obtain ⟨v2, h1, h2⟩ := ih r2 (by simpa using h)
          exact ⟨v2, by simpa using h1, h2⟩
    obtain ⟨v, h1, h2⟩ := get r e2
    refine ⟨v, ?_, h2⟩
    unfold L2.start
    rw [List.getElem?_append_left (by rw [List.length_map, hv, ← num_len as 0]; exact hi), List.getElem?_map, h1]
    rfl
  · have hsay := hs as hal
    have h2 := says_sat B (boxes_some as) hsay h
    unfold runB at h2
    cases hx : exs Φ fuel b ((numA 0 as).map some ++ List.replicate (N.length - (numA 0 as).length) none) (boxesA as) with
    | next ρ S' =>
      rw [hx] at h2
      exact fun σ' μ' H' B' f' _ => h2 .non μ' H' B' f' rfl
    | ret d S' =>
      rw [hx] at h2
      exact h2
    | rse ρ c ns vs S' =>
      rw [hx] at h2
      exact fun σ' dd μ' H' B' f' _ rx => h2 dd μ' H' B' f' rx
    | bad =>
      rw [hx] at h2
      exact h2.elim
end
end PD
/-! The check: Python's syntax against the little language. -/
namespace PD
open PySem L2 PySem.Spec PyProof.Rows
mutual
def P.eqb : P → P → Bool
  | .non => fun q => match q with | .non => true | _ => false
  | .bl b => fun q => match q with | .bl c => decide (b = c) | _ => false
  | .int b => fun q => match q with | .int c => decide (b = c) | _ => false
  | .str b => fun q => match q with | .str c => decide (b = c) | _ => false
  | .tup l => fun q => match q with | .tup m => P.eqbs l m | _ => false
  | .ktup l => fun q => match q with | .ktup m => P.eqbs l m | _ => false
  | _ => fun _ => false
def P.eqbs : List P → List P → Bool
  | [] => fun m => match m with | [] => true | _ => false
  | p :: l => fun m => match m with | q :: m => P.eqb p q && P.eqbs l m | [] => false
end
mutual
theorem P.eqb_ok : ∀ (p q : P), P.eqb p q = true → p = q
  | .non, q, h => by cases q <;> first | rfl | cases h
  | .bl b, q, h => by cases q <;> first | (cases h; done) | skip; exact congrArg P.bl (of_decide_eq_true h)
  | .int b, q, h => by cases q <;> first | (cases h; done) | skip; exact congrArg P.int (of_decide_eq_true h)
  | .str b, q, h => by cases q <;> first | (cases h; done) | skip; exact congrArg P.str (of_decide_eq_true h)
  | .tup l, q, h => by cases q <;> first | (cases h; done) | skip; exact congrArg P.tup (P.eqbs_ok l _ h)
  | .ktup l, q, h => by cases q <;> first | (cases h; done) | skip; exact congrArg P.ktup (P.eqbs_ok l _ h)
  | .lst _, _, h => by cases h
  | .fls _, _, h => by cases h
  | .dk _ _, _, h => by cases h
  | .dt _ _, _, h => by cases h
  | .ins _ _ _, _, h => by cases h
theorem P.eqbs_ok : ∀ (l m : List P), P.eqbs l m = true → l = m
  | [], m, h => by cases m <;> first | rfl | cases h
  | p :: l, m, h => by
    cases m with
    | nil => cases h
    | cons q m =>
      have h' : (P.eqb p q && P.eqbs l m) = true := h
      rw [Bool.and_eq_true] at h'
      rw [P.eqb_ok p q h'.1, P.eqbs_ok l m h'.2]
end
/-- what may be named -/
structure Tab where
  fns : List (Str × Nat × List P) := []
  mks : List (Str × Nat × Nat × List P) := []
  mts : List (Nat × Str × Nat) := []
  ops : List (Nat × Operator × Nat) := []
  eqs : List (Nat × Nat) := []
  nes : List (Nat × Nat) := []
  ins : List (Nat × Nat) := []
  lens : List (Nat × Nat) := []
  fls : List (Nat × Str) := []
  cls : List (Str × Nat) := []
  gls : List (Str × P) := []
  blts : List Str := []
  ncl : Nat := 0
  isa : List (List Ty) := []
def tyVal (cl : Nat → Addr) : Ty → Value
  | .int => .type "int"
  | .bool => .type "bool"
  | .str => .type "str"
  | .tup => .type "tuple"
  | .lst => .type "list"
  | .dict => .type "dict"
  | .none => .type "NoneType"
  | .cls c => .ref (cl c)
def tyV' (cl : Nat → Addr) : Ty → V
  | .int => .ty "int"
  | .bool => .ty "bool"
  | .str => .ty "str"
  | .tup => .ty "tuple"
  | .lst => .ty "list"
  | .dict => .ty "dict"
  | .none => .ty "NoneType"
  | .cls c => .ref (cl c)
/-- the facts behind the table -/
structure Wd (P : Program) (w : World) (K : PySem.W.Frag) (mg : Str → Option Value) (base : Heap) (cl : Nat → Addr) (Φ : Nat → List Arg → LR) (T : Tab) (j : Nat) : Prop where
  fn : ∀ t ∈ T.fns, ∃ f fd ps ds dvs, FnOk P w K mg base (L2.CX P w) j f fd ps (spL K cl (Φ t.2.1)) ∧ mg t.1 = some (.ref f) ∧ PySem.W.keepIn K (.ref f) = true ∧ Binds K fd ps ds ∧ Vals dvs ds ∧ (∀ G, RepL K cl G t.2.2 dvs) ∧ (t.1 == ("__debug__" : Str)) = false
  mkr : ∀ t ∈ T.mks, ∃ f fd ps ds dvs, Mk K (cl t.2.1) f ∧ FnOk P w K mg base (L2.CX P w) j f fd ps (spL K cl (Φ t.2.2.1)) ∧ mg t.1 = some (.ref (cl t.2.1)) ∧ Binds K fd ps ds ∧ Vals dvs ds ∧ (∀ G, RepL K cl G t.2.2.2 dvs) ∧ (t.1 == ("__debug__" : Str)) = false
  mt : ∀ t ∈ T.mts, ∃ f fd ps, Cls K (cl t.1) ∧ Meth K (cl t.1) t.2.1 f ∧ FnOk P w K mg base (L2.CX P w) j f fd ps (spL K cl (Φ t.2.2)) ∧ Binds K fd ps []
  op : ∀ t ∈ T.ops, ∃ f fd ps, PySem.W.selfFirst K (cl t.1) = true ∧ PySem.W.findIn K (.ref (cl t.1)) (PySem.dunder t.2.1.info.2) = some (some (.ref f)) ∧ PySem.W.isFn K (.ref f) = true ∧ FnOk P w K mg base (L2.CX P w) j f fd ps (spL K cl (Φ t.2.2)) ∧ Binds K fd ps []
  eq : ∀ t ∈ T.eqs, ∃ f fd ps, PySem.W.findIn K (.ref (cl t.1)) (cmpInfo .Eq).2.1 = some (some (.ref f)) ∧ PySem.W.isFn K (.ref f) = true ∧ FnOk P w K mg base (L2.CX P w) j f fd ps (spL K cl (Φ t.2)) ∧ Binds K fd ps []
  ne : ∀ t ∈ T.nes, ∃ f fd ps, PySem.W.findIn K (.ref (cl t.1)) "__ne__" = some (some (.builtin "object.__ne__")) ∧ PySem.W.mroIn K (cl t.1) (.type "object") = some true ∧ PySem.W.findIn K (.ref (cl t.1)) "__eq__" = some (some (.ref f)) ∧ PySem.W.isFn K (.ref f) = true ∧ FnOk P w K mg base (L2.CX P w) j f fd ps (spL K cl (Φ t.2)) ∧ Binds K fd ps []
  isin : ∀ t ∈ T.ins, ∃ f fd ps, PySem.W.findIn K (.ref (cl t.1)) "__contains__" = some (some (.ref f)) ∧ PySem.W.isFn K (.ref f) = true ∧ FnOk P w K mg base (L2.CX P w) j f fd ps (spL K cl (Φ t.2)) ∧ Binds K fd ps []
  len : ∀ t ∈ T.lens, ∃ f fd ps, PySem.W.findIn K (.ref (cl t.1)) "__len__" = some (some (.ref f)) ∧ PySem.W.isFn K (.ref f) = true ∧ FnOk P w K mg base (L2.CX P w) j f fd ps (spL K cl (Φ t.2)) ∧ Binds K fd ps []
  fl : ∀ t ∈ T.fls, Cls K (cl t.1) ∧ NoAttr K (cl t.1) t.2
  cs : ∀ t ∈ T.cls, mg t.1 = some (.ref (cl t.2)) ∧ (t.1 == ("__debug__" : Str)) = false
  gl : ∀ t ∈ T.gls, ∃ u v, mg t.1 = some u ∧ RelV v u ∧ (∀ G, Rep K cl G t.2 v) ∧ (t.1 == ("__debug__" : Str)) = false
  bl : ∀ x ∈ T.blts, mg x = none
  ic : ∀ c, c < T.ncl → InsCls K (cl c)
  kit : ∀ ts ∈ T.isa, KitOk K cl T.ncl ts (ts.map (tyVal cl))
/-! ### shapes -/
def visB (sc : Scope) (x : Str) : Bool := match sc.names.lookup x with
  | some .local => true
  | some .cell => true
  | some .free => true
  | _ => false
def glB (sc : Scope) (x : Str) : Bool := match sc.names.lookup x with
  | some .globalImplicit => true
  | _ => false
def okN (x : Str) : Bool := !(x == ("__debug__" : Str)) && !(x == ("__classdict__" : Str))
def cstB (c : Const) (p : P) : Bool := match c, p with
  | .int i, .int j => decide (i = j)
  | .str s, .str t => decide (s = t)
  | .bool b, .bl d => decide (b = d)
  | .none, .non => true
  | _, _ => false
def Op1.name : Op1 → Option Str
  | .abs => some "abs"
  | .len => some "len"
  | .int => some "int"
  | .list => some "list"
  | .tuple => some "tuple"
  | .sortedI => some "sorted"
  | .str => some "str"
  | .all => some "all"
  | .any => some "any"
  | _ => none
def Ty.name : Ty → _root_.Option Str
  | .int => some "int"
  | .bool => some "bool"
  | .str => some "str"
  | .tup => some "tuple"
  | .lst => some "list"
  | .dict => some "dict"
  | _ => Option.none
def tyE (T : Tab) (sc : Scope) (t : Ty) : Expr → Bool
  | .Name x _ => glB sc x && (match t with
    | .cls c => T.cls.any fun y => decide (y.1 = x) && decide (y.2 = c)
    | t => decide (t.name = some x) && T.blts.contains x)
  | _ => false
def tyEs (T : Tab) (sc : Scope) : List Ty → List Expr → Bool
  | [], [] => true
  | t :: ts, e :: es => tyE T sc t e && noStar e && tyEs T sc ts es
  | _, _ => false
def bltE (T : Tab) (sc : Scope) (x y : Str) : Bool := decide (x = y) && glB sc x && T.blts.contains x
/-! ### views -/
def vName : Expr → Option Str
  | .Name x _ => some x
  | _ => none
def vUn : Expr → Option (UnaryOp × Expr)
  | .UnaryOp o a _ => some (o, a)
  | _ => none
def vCmp : Expr → Option (Expr × CmpOp × Expr)
  | .Compare a [o] [b] _ => some (a, o, b)
  | _ => none
def vCmp2 : Expr → Option (Expr × CmpOp × CmpOp × Expr × Expr)
  | .Compare a [o, p] [b, c] _ => some (a, o, p, b, c)
  | _ => none
def vBin : Expr → Option (Expr × Operator × Expr)
  | .BinOp a o b _ => some (a, o, b)
  | _ => none
def vSub : Expr → Option (Expr × Expr)
  | .Subscript a b _ => some (a, b)
  | _ => none
def vCall : Expr → Option (Str × List Expr)
  | .Call (.Name x _) es [] _ => some (x, es)
  | _ => none
def vMeth : Expr → Option (Expr × Str × List Expr)
  | .Call (.Attribute o m apos) es [] pos => if apos.endLine == pos.line then some (o, m, es) else none
  | _ => none
def vAttr : Expr → Option (Expr × Str)
  | .Attribute o m _ => some (o, m)
  | _ => none
def vCst : Expr → Option Const
  | .Constant c _ _ => some c
  | _ => none
def vTup : Expr → Option (List Expr)
  | .Tuple es _ _ => some es
  | _ => none
def vLst : Expr → Option (List Expr)
  | .List es _ => some es
  | _ => none
def vIf : Expr → Option (Expr × Expr × Expr)
  | .IfExp c a b _ => some (c, a, b)
  | _ => none
def vSlice : Expr → Option (Option Expr × Option Expr × Option Expr)
  | .Slice a b c _ => some (a, b, c)
  | _ => none
def vBool : Expr → Option (BoolOp × List Expr × Pos)
  | .BoolOp o es p => some (o, es, p)
  | _ => none
def vDict : Expr → Bool
  | .Dict [] [] _ => true
  | _ => false
def vLc : Expr → Option (Expr × Expr × Expr × List Expr × Scope)
  | .ListComp elt [⟨tg, iter, ifs, 0⟩] scope _ => some (elt, tg, iter, ifs, scope)
  | _ => none
def vDc : Expr → Option (Expr × Expr × Expr × Expr × List Expr × Scope)
  | .DictComp k v [⟨tg, iter, ifs, 0⟩] scope _ => some (k, v, tg, iter, ifs, scope)
  | _ => none
section
variable {e a b c : Expr}
theorem vName_ok {x : Str} (h : vName e = some x) : ∃ p, e = .Name x p := by cases e <;> first | (cases h; done) | (cases h; exact ⟨_, rfl⟩)
theorem vUn_ok {o : UnaryOp} (h : vUn e = some (o, a)) : ∃ p, e = .UnaryOp o a p := by cases e <;> first | (cases h; done) | (cases h; exact ⟨_, rfl⟩)
theorem vCmp_ok {o : CmpOp} (h : vCmp e = some (a, o, b)) : ∃ p, e = .Compare a [o] [b] p := by
  unfold vCmp at h
  split at h
  · cases h; exact ⟨_, rfl⟩
  · cases h
theorem vCmp2_ok {o p : CmpOp} (h : vCmp2 e = some (a, o, p, b, c)) : ∃ q, e = .Compare a [o, p] [b, c] q := by
  unfold vCmp2 at h
  split at h
  · cases h; exact ⟨_, rfl⟩
  · cases h
theorem vBin_ok {o : Operator} (h : vBin e = some (a, o, b)) : ∃ p, e = .BinOp a o b p := by cases e <;> first | (cases h; done) | (cases h; exact ⟨_, rfl⟩)
theorem vSub_ok (h : vSub e = some (a, b)) : ∃ p, e = .Subscript a b p := by cases e <;> first | (cases h; done) | (cases h; exact ⟨_, rfl⟩)
theorem vCall_ok {x : Str} {es : List Expr} (h : vCall e = some (x, es)) : ∃ p q, e = .Call (.Name x p) es [] q := by
  unfold vCall at h
  split at h
  · cases h; exact ⟨_, _, rfl⟩
  · cases h
theorem vMeth_ok {m : Str} {es : List Expr} (h : vMeth e = some (a, m, es)) : ∃ p q, e = .Call (.Attribute a m p) es [] q ∧ (p.endLine == q.line) = true := by
  unfold vMeth at h
  split at h
  · split at h
    · rename_i hh
      cases h; exact ⟨_, _, rfl, hh⟩
    · cases h
  · cases h
theorem vAttr_ok {m : Str} (h : vAttr e = some (a, m)) : ∃ p, e = .Attribute a m p := by cases e <;> first | (cases h; done) | (cases h; exact ⟨_, rfl⟩)
theorem vCst_ok {k : Const} (h : vCst e = some k) : ∃ j p, e = .Constant k j p := by cases e <;> first | (cases h; done) | (cases h; exact ⟨_, _, rfl⟩)
theorem vTup_ok {es : List Expr} (h : vTup e = some es) : ∃ k p, e = .Tuple es k p := by cases e <;> first | (cases h; done) | (cases h; exact ⟨_, _, rfl⟩)
theorem vLst_ok {es : List Expr} (h : vLst e = some es) : ∃ p, e = .List es p := by cases e <;> first | (cases h; done) | (cases h; exact ⟨_, rfl⟩)
theorem vIf_ok (h : vIf e = some (c, a, b)) : ∃ p, e = .IfExp c a b p := by cases e <;> first | (cases h; done) | (cases h; exact ⟨_, rfl⟩)
theorem vSlice_ok {x y z : Option Expr} (h : vSlice e = some (x, y, z)) : ∃ p, e = .Slice x y z p := by cases e <;> first | (cases h; done) | (cases h; exact ⟨_, rfl⟩)
theorem vBool_ok {o : BoolOp} {es : List Expr} {p : Pos} (h : vBool e = some (o, es, p)) : e = .BoolOp o es p := by cases e <;> first | (cases h; done) | (cases h; rfl)
theorem vDict_ok (h : vDict e = true) : ∃ p, e = .Dict [] [] p := by
  unfold vDict at h
  split at h
  · exact ⟨_, rfl⟩
  · cases h
theorem vLc_ok {elt tg iter : Expr} {ifs : List Expr} {scope : Scope} (h : vLc e = some (elt, tg, iter, ifs, scope)) : ∃ p, e = .ListComp elt [⟨tg, iter, ifs, 0⟩] scope p := by
  unfold vLc at h
  split at h
  · cases h; exact ⟨_, rfl⟩
  · cases h
theorem vDc_ok {k v tg iter : Expr} {ifs : List Expr} {scope : Scope} (h : vDc e = some (k, v, tg, iter, ifs, scope)) : ∃ p, e = .DictComp k v [⟨tg, iter, ifs, 0⟩] scope p := by
  unfold vDc at h
  split at h
  · cases h; exact ⟨_, rfl⟩
  · cases h
end
theorem if_some {α : Type} {c : Bool} {a b : α} (h : (if c then some a else none) = some b) : c = true ∧ a = b := by
  cases c with
  | true => exact ⟨rfl, Option.some.inj h⟩
  | false => cases h
def isaB (T : Tab) (sc : Scope) (ts : List Ty) (c : Expr) : Bool := match vTup c with
  | some cs => decide (ts.length ≤ 99) && tyEs T sc ts cs
  | none => noStar c && (match ts with
    | [t] => tyE T sc t c
    | _ => false)
def isNonB (e : Expr) : Bool := match vCst e with
  | some .none => true
  | _ => false
def isOneB (e : Expr) : Bool := match vCst e with
  | some (.int i) => decide (i = 1)
  | _ => false
theorem isNonB_ok {e : Expr} (h : isNonB e = true) : ∃ j p, e = .Constant .none j p := by
  unfold isNonB at h
  cases hv : vCst e with
  | none => rw [hv] at h; cases h
  | some k =>
    rw [hv] at h
    obtain ⟨j, p, rfl⟩ := vCst_ok hv
    cases k <;> first | exact ⟨j, p, rfl⟩ | cases h
theorem isOneB_ok {e : Expr} (h : isOneB e = true) : ∃ j p, e = .Constant (.int 1) j p := by
  unfold isOneB at h
  cases hv : vCst e with
  | none => rw [hv] at h; cases h
  | some k =>
    rw [hv] at h
    obtain ⟨j, p, rfl⟩ := vCst_ok hv
    cases k <;> first | (cases h; done) | skip
    exact ⟨j, p, by rw [of_decide_eq_true h]⟩
/-- the operand of a one-place operation -/
def o1E (T : Tab) (sc : Scope) (o : Op1) (e : Expr) : Option Expr := match o with
  | .neg => match vUn e with
    | some (.USub, a) => some a
    | _ => none
  | .not => match vUn e with
    | some (.Not, a) => some a
    | _ => none
  | .isN => match vCmp e with
    | some (a, .Is, b) => if isNonB b then some a else none
    | _ => none
  | .notN => match vCmp e with
    | some (a, .IsNot, b) => if isNonB b then some a else none
    | _ => none
  | .rev => match vSub e with
    | some (a, s) => match vSlice s with
      | some (none, none, some t) => match vUn t with
        | some (.USub, u) => if isOneB u then some a else none
        | _ => none
      | _ => none
    | _ => none
  | .itemsL => match vCall e with
    | some (x, [c]) => match vMeth c with
      | some (a, m, []) => if bltE T sc x "list" && decide (m = ("items" : Str)) && plainBase a then some a else none
      | _ => none
    | _ => none
  | .isA n ts => match vCall e with
    | some (x, [a, c]) => if bltE T sc x "isinstance" && noStar a && decide (n = T.ncl) && decide (ts ∈ T.isa) && isaB T sc ts c then some a else none
    | _ => none
  | o => match vCall e with
    | some (x, [a]) => if decide (o.name = some x) && glB sc x && T.blts.contains x && noStar a then some a else none
    | _ => none
section
variable {X : Cx} {cl : Nat → Addr} {W : WX} {Φ : Nat → List Arg → LR} {T : Tab} {j : Nat} {sc : Scope}
theorem gl_of {x : Str} (hs : X.env.scope = sc) (h : glB sc x = true) : Gl X x := by
  unfold glB at h
  split at h
  · unfold Gl Env.kindOf
    rw [hs]
    assumption
  · cases h
theorem vis_of {x : Str} (hs : X.env.scope = sc) (h : visB sc x = true) : Vis X.env.scope x := by
  unfold visB at h
  unfold Vis
  rw [hs]
  split at h <;> first | exact .inl (by assumption) | exact .inr (.inl (by assumption)) | exact .inr (.inr (by assumption)) | cases h
theorem o1_call (hc : X.calm = true) {o : Op1} {x : Str} (h : o.name = some x) : (∀ W' : XK, (∃ id, bootBuiltins x = some (.builtin id) ∧ CallR X (.builtin id) (RC1 X cl W' o)) ∨ ∃ t, bootBuiltins x = some (.type t) ∧ CallR X (.type t) (RC1 X cl W' o)) ∧ x ≠ "__name__" ∧ (x == ("__debug__" : Str)) = false := by
  cases o <;> simp only [Op1.name] at h <;> cases h
  · exact ⟨fun W' => .inl ⟨_, by first | rfl | decide +kernel, call_abs_ok⟩, by decide +kernel, by decide +kernel⟩
  · exact ⟨fun W' => .inl ⟨_, by first | rfl | decide +kernel, call_len_ok⟩, by decide +kernel, by decide +kernel⟩
  · exact ⟨fun W' => .inr ⟨_, by first | rfl | decide +kernel, call_int_ok⟩, by decide +kernel, by decide +kernel⟩
  · exact ⟨fun W' => .inr ⟨_, by first | rfl | decide +kernel, call_list_ok⟩, by decide +kernel, by decide +kernel⟩
  · exact ⟨fun W' => .inr ⟨_, by first | rfl | decide +kernel, call_tuple_ok⟩, by decide +kernel, by decide +kernel⟩
  · exact ⟨fun W' => .inl ⟨_, by first | rfl | decide +kernel, call_sorted_ok hc⟩, by decide +kernel, by decide +kernel⟩
  · exact ⟨fun W' => .inr ⟨_, by first | rfl | decide +kernel, call_str_ok⟩, by decide +kernel, by decide +kernel⟩
  · exact ⟨fun W' => .inl ⟨_, by first | rfl | decide +kernel, call_all_ok hc W'⟩, by decide +kernel, by decide +kernel⟩
  · exact ⟨fun W' => .inl ⟨_, by first | rfl | decide +kernel, call_any_ok hc W'⟩, by decide +kernel, by decide +kernel⟩
theorem e_o1c (hc : X.calm = true) (hs : X.env.scope = sc) {o : Op1} {x : Str} {a : Expr} {p pos : Pos} {f : List (Option D) → Sto → Res D} (h : o.name = some x) (hg : glB sc x = true) (hm : X.mg x = none) (hst : noStar a = true) (ha : PE X a (tE X cl W f)) :
    PE X (.Call (.Name x p) [a] [] pos) (tE X cl W fun ρ S => (f ρ S).bind fun d S => optR ((view S d).bind fun x => (prim1 o x).map .p) S) := by
  obtain ⟨h1, h2, h3⟩ := o1_call (cl := cl) hc h
  refine e_call1 (a := a) fun W' => ?_
  rcases h1 W' with ⟨id, hb, hr⟩ | ⟨t, hb, hr⟩
  · exact pe_callB hr (gl_of hs hg) hm hb (pa_cons ha pa_nil (star_cons hst)) (he := star_cons hst) (hpl := rfl) (hn := h2) (hdb := h3)
  · exact pe_callTy hr (gl_of hs hg) hm hb (pa_cons ha pa_nil (star_cons hst)) (he := star_cons hst) (hpl := rfl) (hn := h2) (hdb := h3)
theorem ty_pe (hs : X.env.scope = sc) (wd : Wd X.prog X.w X.K X.mg X.base cl Φ T j) {t : Ty} {c : Expr} (h : tyE T sc t c = true) : PE X c (tC (tyV' cl t)) ∧ ClsV (tyV' cl t) (tyVal cl t) := by
  cases c <;> first | (cases h; done) | skip
  rename_i x pos
  simp only [tyE, Bool.and_eq_true] at h
  obtain ⟨hg, h⟩ := h
  have bi : ∀ {y : Str} {n : String}, x = y → T.blts.contains x = true → bootBuiltins y = some (.type n) → y ≠ "__name__" → (y == ("__debug__" : Str)) = false → PE X (.Name x pos) (tC (.ty n)) := fun e hb hv hn hd => by
    subst e
    exact pe_bltn (gl_of hs hg) (wd.bl x (by simpa using hb)) hv rfl hn hd
  cases t with
  | cls c =>
    dsimp only at h
    rw [List.any_eq_true] at h
    obtain ⟨y, hy, h⟩ := h
    simp only [Bool.and_eq_true, decide_eq_true_eq] at h
    obtain ⟨e1, e2⟩ := h
    obtain ⟨hm, hd⟩ := wd.cs y hy
    subst e1; subst e2
    exact ⟨pe_glob (gl_of hs hg) hm rfl hd, .own _⟩
  | none => simp only [Ty.name, Bool.and_eq_true, decide_eq_true_eq] at h; cases h.1
  | int =>
    simp only [Ty.name, Bool.and_eq_true, decide_eq_true_eq, Option.some.injEq] at h
    exact ⟨bi h.1.symm h.2 (by first | rfl | decide +kernel) (by decide +kernel) (by decide +kernel), .ty _⟩
  | bool =>
    simp only [Ty.name, Bool.and_eq_true, decide_eq_true_eq, Option.some.injEq] at h
    exact ⟨bi h.1.symm h.2 (by first | rfl | decide +kernel) (by decide +kernel) (by decide +kernel), .ty _⟩
  | str =>
    simp only [Ty.name, Bool.and_eq_true, decide_eq_true_eq, Option.some.injEq] at h
    exact ⟨bi h.1.symm h.2 (by first | rfl | decide +kernel) (by decide +kernel) (by decide +kernel), .ty _⟩
  | tup =>
    simp only [Ty.name, Bool.and_eq_true, decide_eq_true_eq, Option.some.injEq] at h
    exact ⟨bi h.1.symm h.2 (by first | rfl | decide +kernel) (by decide +kernel) (by decide +kernel), .ty _⟩
  | lst =>
    simp only [Ty.name, Bool.and_eq_true, decide_eq_true_eq, Option.some.injEq] at h
    exact ⟨bi h.1.symm h.2 (by first | rfl | decide +kernel) (by decide +kernel) (by decide +kernel), .ty _⟩
  | dict =>
    simp only [Ty.name, Bool.and_eq_true, decide_eq_true_eq, Option.some.injEq] at h
    exact ⟨bi h.1.symm h.2 (by first | rfl | decide +kernel) (by decide +kernel) (by decide +kernel), .ty _⟩
theorem tys_pe (hs : X.env.scope = sc) (wd : Wd X.prog X.w X.K X.mg X.base cl Φ T j) : ∀ {ts : List Ty} {es : List Expr}, tyEs T sc ts es = true → PA X es (fun σ H Q => Q (ts.map (tyV' cl)) H) ∧ Paired ClsV (ts.map (tyV' cl)) (ts.map (tyVal cl))
  | [], [], _ => ⟨pa_nil.imp fun σ H Q h => h, .nil⟩
  | t :: ts, e :: es, h => by
    have h' : (tyE T sc t e && noStar e && tyEs T sc ts es) = true := h
    simp only [Bool.and_eq_true] at h'
    obtain ⟨h1, h2⟩ := ty_pe hs wd h'.1.1
    obtain ⟨h3, h4⟩ := tys_pe hs wd h'.2
    exact ⟨(pa_cons h1 h3 (star_cons h'.1.2)).imp fun σ H Q h => h, .cons h2 h4⟩
  | [], _ :: _, h => by cases h
  | _ :: _, [], h => by cases h
theorem tys_len : ∀ {ts : List Ty} {es : List Expr}, tyEs T sc ts es = true → ts.length = es.length
  | [], [], _ => rfl
  | t :: ts, e :: es, h => by
    have h' : (tyE T sc t e && noStar e && tyEs T sc ts es) = true := h
    simp only [Bool.and_eq_true] at h'
    simp [tys_len h'.2]
  | [], _ :: _, h => by cases h
  | _ :: _, [], h => by cases h
/-- an expression's two rules: its value, its value as a test -/
def Two (X : Cx) (e : Expr) (t : TE) : Prop := PE X e t ∧ (plainTest e = true ∨ (∃ a op b pos, e = .Compare a [op] [b] pos) → PT X e (tTru X t))
theorem Two.plain {e : Expr} {t : TE} (h : PE X e t) (hc : ∀ a op b pos, e ≠ .Compare a [op] [b] pos) : Two X e t := ⟨h, fun z => z.elim (fun z => pt_plain h z) fun ⟨a, op, b, pos, z⟩ => absurd z (hc a op b pos)⟩
theorem Two.cmp {a b : Expr} {op : CmpOp} {pos : Pos} {t : TE} (h : PC X op a b t) (h1 : behindInMarks op b = false) : Two X (.Compare a [op] [b] pos) t := ⟨pe_cmp h h1, fun _ => pt_cmp1 h h1⟩
theorem blt_of {x y : Str} (h : bltE T sc x y = true) : x = y ∧ glB sc x = true ∧ x ∈ T.blts := by
  simpa [bltE, Bool.and_eq_true, and_assoc] using h
theorem o1_call_ok (hs : X.env.scope = sc) (hc : X.calm = true) (wd : Wd X.prog X.w X.K X.mg X.base cl Φ T j) {o : Op1} {e a : Expr} {f : List (Option D) → Sto → Res D} (h : (match vCall e with
    | some (x, [a]) => if decide (o.name = some x) && glB sc x && T.blts.contains x && noStar a then some a else none
    | _ => none) = some a) (ha : PE X a (tE X cl W f)) : Two X e (tE X cl W fun ρ S => (f ρ S).bind fun d S => optR ((view S d).bind fun x => (prim1 o x).map .p) S) := by
  cases hv : vCall e with
  | none => rw [hv] at h; cases h
  | some q =>
    obtain ⟨x, es⟩ := q
    obtain ⟨p, q, rfl⟩ := vCall_ok hv
    rw [hv] at h
    rcases es with _ | ⟨a', _ | ⟨b, es⟩⟩ <;> first | (cases h; done) | skip
    obtain ⟨hh, rfl⟩ := if_some h
    simp only [Bool.and_eq_true, decide_eq_true_eq] at hh
    exact .plain (e_o1c hc hs hh.1.1.1 hh.1.1.2 (wd.bl x (by simpa using hh.1.2)) hh.2 ha) (fun _ _ _ _ z => nomatch z)
theorem o1_ok (hs : X.env.scope = sc) (hc : X.calm = true) (hu : X.A.units + 66 < cLine) (wd : Wd X.prog X.w X.K X.mg X.base cl Φ T j) {o : Op1} {e a : Expr} {f : List (Option D) → Sto → Res D} (h : o1E T sc o e = some a) (ha : PE X a (tE X cl W f)) :
    Two X e (tE X cl W fun ρ S => (f ρ S).bind fun d S => optR ((view S d).bind fun x => (prim1 o x).map .p) S) := by
  cases o with
  | neg =>
    simp only [o1E] at h
    cases hv : vUn e with
    | none => rw [hv] at h; cases h
    | some q =>
      obtain ⟨op, x⟩ := q
      obtain ⟨p, rfl⟩ := vUn_ok hv
      rw [hv] at h
      cases op <;> cases h
      exact .plain (e_un un_neg_ok ha) (fun _ _ _ _ z => nomatch z)
  | not =>
    simp only [o1E] at h
    cases hv : vUn e with
    | none => rw [hv] at h; cases h
    | some q =>
      obtain ⟨op, x⟩ := q
      obtain ⟨p, rfl⟩ := vUn_ok hv
      rw [hv] at h
      cases op <;> cases h
      exact ⟨e_not ha, fun z => z.elim (fun z => by cases z) fun ⟨_, _, _, _, z⟩ => nomatch z⟩
  | isN =>
    simp only [o1E] at h
    cases hv : vCmp e with
    | none => rw [hv] at h; cases h
    | some q =>
      obtain ⟨x, op, y⟩ := q
      obtain ⟨p, rfl⟩ := vCmp_ok hv
      rw [hv] at h
      cases op <;> first | (cases h; done) | skip
      obtain ⟨hh, rfl⟩ := if_some h
      obtain ⟨jj, pp, rfl⟩ := isNonB_ok hh
      exact .cmp (c_isN (.inl ⟨rfl, rfl⟩) ha) (nomark _)
  | notN =>
    simp only [o1E] at h
    cases hv : vCmp e with
    | none => rw [hv] at h; cases h
    | some q =>
      obtain ⟨x, op, y⟩ := q
      obtain ⟨p, rfl⟩ := vCmp_ok hv
      rw [hv] at h
      cases op <;> first | (cases h; done) | skip
      obtain ⟨hh, rfl⟩ := if_some h
      obtain ⟨jj, pp, rfl⟩ := isNonB_ok hh
      exact .cmp (c_isN (.inr ⟨rfl, rfl⟩) ha) (nomark _)
  | rev =>
    simp only [o1E] at h
    cases hv : vSub e with
    | none => rw [hv] at h; cases h
    | some q =>
      obtain ⟨x, y⟩ := q
      obtain ⟨p, rfl⟩ := vSub_ok hv
      rw [hv] at h
      dsimp only at h
      cases hv2 : vSlice y with
      | none => rw [hv2] at h; cases h
      | some q =>
        obtain ⟨u, v, w⟩ := q
        obtain ⟨p2, rfl⟩ := vSlice_ok hv2
        rw [hv2] at h
        cases u <;> cases v <;> cases w <;> first | (cases h; done) | skip
        rename_i t
        dsimp only at h
        cases hv3 : vUn t with
        | none => rw [hv3] at h; cases h
        | some q =>
          obtain ⟨op, z⟩ := q
          obtain ⟨p3, rfl⟩ := vUn_ok hv3
          rw [hv3] at h
          cases op <;> first | (cases h; done) | skip
          obtain ⟨hh, rfl⟩ := if_some h
          obtain ⟨jj, pp, rfl⟩ := isOneB_ok hh
          exact .plain (e_rev ha) (fun _ _ _ _ z => nomatch z)
  | itemsL =>
    simp only [o1E] at h
    cases hv : vCall e with
    | none => rw [hv] at h; cases h
    | some q =>
      obtain ⟨x, es⟩ := q
      obtain ⟨p, q, rfl⟩ := vCall_ok hv
      rw [hv] at h
      rcases es with _ | ⟨c, _ | ⟨b, es⟩⟩ <;> first | (cases h; done) | skip
      dsimp only at h
      cases hv2 : vMeth c with
      | none => rw [hv2] at h; cases h
      | some q2 =>
        obtain ⟨a', m, es2⟩ := q2
        obtain ⟨p2, q2, rfl, hl⟩ := vMeth_ok hv2
        rw [hv2] at h
        cases es2 <;> first | (cases h; done) | skip
        obtain ⟨hh, rfl⟩ := if_some h
        simp only [Bool.and_eq_true, decide_eq_true_eq] at hh
        obtain ⟨⟨h1, h2⟩, h3⟩ := hh
        obtain ⟨rfl, hg, hb⟩ := blt_of h1
        subst h2
        exact .plain (e_items hc (gl_of hs hg) (wd.bl _ hb) h3 hl ha) (fun _ _ _ _ z => nomatch z)
  | isA n ts =>
    simp only [o1E] at h
    cases hv : vCall e with
    | none => rw [hv] at h; cases h
    | some q =>
      obtain ⟨x, es⟩ := q
      obtain ⟨p, q, rfl⟩ := vCall_ok hv
      rw [hv] at h
      rcases es with _ | ⟨a', _ | ⟨c, _ | ⟨b, es⟩⟩⟩ <;> first | (cases h; done) | skip
      obtain ⟨hh, rfl⟩ := if_some h
      simp only [Bool.and_eq_true, decide_eq_true_eq] at hh
      obtain ⟨⟨⟨⟨h1, h2⟩, h3⟩, h4⟩, h5⟩ := hh
      obtain ⟨rfl, hg, hb⟩ := blt_of h1
      subst h3
      have kit := wd.kit ts h4
      unfold isaB at h5
      cases hv2 : vTup c with
      | some cs =>
        obtain ⟨k2, p2, rfl⟩ := vTup_ok hv2
        rw [hv2] at h5
        simp only [Bool.and_eq_true, decide_eq_true_eq] at h5
        obtain ⟨hz, h5⟩ := h5
        obtain ⟨q1, q2⟩ := tys_pe hs wd h5
        exact .plain (e_isAT wd.ic kit q2 (by rw [List.length_map, sizeLine_eq]; omega) q1 (gl_of hs hg) (wd.bl _ hb) h2 ha) (fun _ _ _ _ z => nomatch z)
      | none =>
        rw [hv2] at h5
        simp only [Bool.and_eq_true] at h5
        obtain ⟨h5, h6⟩ := h5
        rcases ts with _ | ⟨t, _ | ⟨t2, ts⟩⟩ <;> first | (cases h6; done) | skip
        obtain ⟨q1, q2⟩ := ty_pe hs wd h6
        exact .plain (e_isA1 wd.ic kit q2 q1 (gl_of hs hg) (wd.bl _ hb) h2 h5 ha) (fun _ _ _ _ z => nomatch z)
  | abs => exact o1_call_ok hs hc wd h ha
  | len => exact o1_call_ok hs hc wd h ha
  | int => exact o1_call_ok hs hc wd h ha
  | list => exact o1_call_ok hs hc wd h ha
  | tuple => exact o1_call_ok hs hc wd h ha
  | sortedI => exact o1_call_ok hs hc wd h ha
  | str => exact o1_call_ok hs hc wd h ha
  | all => exact o1_call_ok hs hc wd h ha
  | any => exact o1_call_ok hs hc wd h ha
end
end PD
/-! The check: expressions. -/
namespace PD
open PySem L2 PySem.Spec PyProof.Rows
def o2E (o : Op2) (e : Expr) : Option (Expr × Expr) := match o with
  | .ix => match vSub e with
    | some (a, b) => if noSlice b then some (a, b) else none
    | none => none
  | o => match vBin e with
    | some (a, op, b) => if decide (opOf op = some o) then some (a, b) else none
    | none => match vCmp e with
      | some (a, op, b) => if decide (cmpOf op = some o) && !behindInMarks op b then some (a, b) else none
      | none => none
def isNonI : IE → Bool
  | .cst .non => true
  | _ => false
def noSet : Expr → Bool
  | .Set _ _ _ => false
  | _ => true
def isTT : IT → Bool
  | .tt => true
  | _ => false
def locB (sc : Scope) (x : Str) : Bool := match sc.names.lookup x with
  | some .local => true
  | some .cell => true
  | _ => false
def isLoc (sc : Scope) (x : Str) : Bool := match sc.names.lookup x with
  | some .local => true
  | _ => false
/-- a name stored to; fnB: names whose cells are made at the entry -/
def nameB (N : List Str) (fnB : Str → Bool) (sc : Scope) (e : Expr) (i : Nat) : Bool := match vName e with
  | some x => decide (N[i]? = some x) && locB sc x && (fnB x || isLoc sc x)
  | none => false
def namesB (N : List Str) (fnB : Str → Bool) (sc : Scope) : List Expr → List Nat → Bool
  | [], [] => true
  | e :: es, i :: is => nameB N fnB sc e i && namesB N fnB sc es is
  | _, _ => false
def tgB (N : List Str) (fnB : Str → Bool) (sc : Scope) (tg : Tg) (e : Expr) : Bool := match tg with
  | .nm i => nameB N fnB sc e i
  | .tp is => match vTup e with
    | some es => namesB N fnB sc es is
    | none => false
def ownOf (N : List Str) (own : List Nat) : List (Str × Nat) := own.map fun i => (N.getD i "", i)
def blkB (N : List Str) (sc scope : Scope) (own : List Nat) (tg : Tg) (tge iter : Expr) : Bool :=
  blkC N sc scope (ownOf N own) && tgB N (fun x => scope.names.lookup x == some .cell) (relS scope sc) tg tge && tg.names.all (fun i => own.contains i) && noSet iter
variable (T : Tab) (N : List Str)
mutual
def ckE : IE → Scope → Expr → Bool
  | .var i => fun sc e => match vName e with
    | some x => decide (N[i]? = some x) && visB sc x && okN x
    | none => false
  | .cst p => fun sc e => match vCst e with
    | some c => cstB c p
    | none => match vName e with
      | some x => glB sc x && T.gls.any fun t => decide (t.1 = x) && P.eqb t.2 p
      | none => false
  | .o1 o a => fun sc e => match o1E T sc o e with
    | some x => ckE a sc x
    | none => false
  | .o2 o a b => fun sc e => match o2E o e with
    | some (x, y) => ckE a sc x && ckE b sc y
    | none => false
  | .get a b c => fun sc e => match vMeth e with
    | some (o, m, [x, y]) => decide (m = ("get" : Str)) && plainBase o && noStar x && noStar y && ckE a sc o && ckE b sc x && ckE c sc y
    | _ => false
  | .slice a bl bh lo hi => fun sc e => match vSub e with
    | some (o, s) => match vSlice s with
      | some (l, h, none) => decide (bl = l.isSome) && decide (bh = h.isSome) && ckE a sc o && (match l with
          | some x => ckE lo sc x
          | none => isNonI lo) && (match h with
          | some x => ckE hi sc x
          | none => isNonI hi)
      | _ => false
    | none => false
  | .and a b => fun sc e => match vBool e with
    | some (.And, x :: y :: r, p) => ckE a sc x && (match r with
      | [] => ckE b sc y
      | z :: r => ckE b sc (.BoolOp .And (y :: z :: r) p))
    | _ => false
  | .or a b => fun sc e => match vBool e with
    | some (.Or, x :: y :: r, p) => ckE a sc x && (match r with
      | [] => ckE b sc y
      | z :: r => ckE b sc (.BoolOp .Or (y :: z :: r) p))
    | _ => false
  | .ifx c a b => fun sc e => match vIf e with
    | some (t, x, y) => ckT c sc t && ckE a sc x && ckE b sc y
    | none => false
  | .chain o p a b c => fun sc e => match vCmp2 e with
    | some (x, op, op', y, z) => decide (cmpOf op = some o) && decide (cmpOf op' = some p) && !lastMarks [op, op'] [y, z] && ckE a sc x && ckE b sc y && ckE c sc z
    | none => false
  | .tup l => fun sc e => match vTup e with
    | some es => es.all noStar && ckL l sc es
    | none => false
  | .lst _ l => fun sc e => match vLst e with
    | some es => es.all noStar && ckL l sc es
    | none => false
  | .dnew => fun _ e => vDict e
  | .call _ i dfl l => fun sc e => match vCall e with
    | some (x, es) => es.all noStar && glB sc x && (T.fns.any fun t => decide (t.1 = x) && decide (t.2.1 = i) && P.eqbs t.2.2 dfl) && ckL l sc es
    | none => false
  | .meth _ c m i l => fun sc e => match l with
    | .nil => false
    | .cons a l => match vMeth e with
      | some (o, m', es) => decide (m' = m) && (T.mts.any fun t => decide (t.1 = c) && decide (t.2.1 = m) && decide (t.2.2 = i)) && plainBase o && es.all noStar && decide (es.length < 30) && ckE a sc o && ckL l sc es
      | none => false
  | .own1 c i a => fun sc e => match vCall e with
    | some (x, [y]) => bltE T sc x "len" && (T.lens.any fun t => decide (t.1 = c) && decide (t.2 = i)) && noStar y && ckE a sc y
    | _ => false
  | .own2 c i a b => fun sc e => match vBin e with
    | some (x, op, y) => (T.ops.any fun t => decide (t.1 = c) && decide (t.2.1 = op) && decide (t.2.2 = i)) && ckE a sc x && ckE b sc y
    | none => match vCmp e with
      | some (x, .Eq, y) => (T.eqs.any fun t => decide (t.1 = c) && decide (t.2 = i)) && ckE a sc x && ckE b sc y
      | _ => false
  | .ne c i a b => fun sc e => match vCmp e with
    | some (x, .NotEq, y) => (T.nes.any fun t => decide (t.1 = c) && decide (t.2 = i)) && ckE a sc x && ckE b sc y
    | _ => false
  | .isin c i a b => fun sc e => match vCmp e with
    | some (x, .In, y) => (T.ins.any fun t => decide (t.1 = c) && decide (t.2 = i)) && !behindInMarks .In y && ckE a sc x && ckE b sc y
    | _ => false
  | .mk _ c i dfl l => fun sc e => match vCall e with
    | some (x, es) => es.all noStar && glB sc x && (T.mks.any fun t => decide (t.1 = x) && decide (t.2.1 = c) && decide (t.2.2.1 = i) && P.eqbs t.2.2.2 dfl) && ckL l sc es
    | none => false
  | .fld c f a => fun sc e => match vAttr e with
    | some (o, m) => decide (m = f) && (T.fls.any fun t => decide (t.1 = c) && decide (t.2 = f)) && plainBase o && ckE a sc o
    | none => false
  | .mut m o a => fun sc e => match vMeth e with
    | some (x, n, [y]) => (match m with
      | .append => decide (n = ("append" : Str))
      | .extend => decide (n = ("extend" : Str))
      | .remove => false) && plainBase x && noStar y && ckE o sc x && ckE a sc y
    | _ => false
  | .lc _ own elt tg src cond => fun sc e => match vLc e with
    | some (x, tge, iter, ifs, scope) => blkB N sc scope own tg tge iter && ckS src sc iter && (match ifs with
      | [] => isTT cond
      | [c] => ckT cond (relS scope sc) c
      | _ => false) && ckE elt (relS scope sc) x
    | none => false
  | .dc _ own k v tg src cond => fun sc e => match vDc e with
    | some (x, y, tge, iter, ifs, scope) => blkB N sc scope own tg tge iter && ckS src sc iter && (match ifs with
      | [] => isTT cond
      | [c] => ckT cond (relS scope sc) c
      | _ => false) && ckE k (relS scope sc) x && ckE v (relS scope sc) y
    | none => false
def ckT : IT → Scope → Expr → Bool
  | .tt => fun _ _ => false
  | .tr a => fun sc e => (plainTest e || (vCmp e).isSome) && ckE a sc e
  | .not t => fun sc e => match vUn e with
    | some (.Not, x) => ckT t sc x
    | _ => false
  | .and t u => fun sc e => match vBool e with
    | some (.And, x :: y :: r, p) => ckT t sc x && (match r with
      | [] => ckT u sc y
      | z :: r => ckT u sc (.BoolOp .And (y :: z :: r) p))
    | _ => false
  | .or t u => fun sc e => match vBool e with
    | some (.Or, x :: y :: r, p) => ckT t sc x && (match r with
      | [] => ckT u sc y
      | z :: r => ckT u sc (.BoolOp .Or (y :: z :: r) p))
    | _ => false
def ckL : IL → Scope → List Expr → Bool
  | .nil => fun _ es => es.isEmpty
  | .cons a l => fun sc es => match es with
    | [] => false
    | e :: es => ckE a sc e && ckL l sc es
def ckS : Src → Scope → Expr → Bool
  | .seq a => fun sc e => ckE a sc e
  | .rng1 a => fun sc e => match vCall e with
    | some (x, [y]) => bltE T sc x "range" && noStar y && ckE a sc y
    | _ => false
  | .rng2 a b => fun sc e => match vCall e with
    | some (x, [y, z]) => bltE T sc x "range" && noStar y && noStar z && ckE a sc y && ckE b sc z
    | _ => false
  | .items _ => fun _ _ => false
  | .enum _ => fun _ _ => false
  | .zip _ _ => fun _ _ => false
end
end PD
/-! The check is sound: expressions. -/
namespace PD
open PySem L2 PySem.Spec PyProof.Rows
variable {cl : Nat → Addr} {Φ : Nat → List Arg → LR} {T : Tab} {N : List Str} {j : Nat}
/-- a context that bears the facts -/
structure Good (X : Cx) (cl : Nat → Addr) (Φ : Nat → List Arg → LR) (T : Tab) (N : List Str) (j : Nat) (sc : Scope) (W : WX) : Prop where
  wd : Wd X.prog X.w X.K X.mg X.base cl Φ T j
  hN : X.N = N
  nd : N.Nodup
  sc : X.env.scope = sc
  calm : X.calm = true
  room : Room (j + 1) X.A
  tk : Takes X W
section
variable {X : Cx} {sc : Scope} {W : WX}
theorem Good.hu (g : Good X cl Φ T N j sc W) : X.A.units + 66 < cLine := by
  have := g.room.un
  omega
theorem takesN : Takes X WN := fun _ _ x => by
  obtain ⟨_, _, _, _, _, _, _, _, _, _, _, _, _, _, _, _, z⟩ := x
  exact z.elim
theorem Good.blk (g : Good X cl Φ T N j sc W) (s : Shared) (H : Hp) (scope : Scope) (C : Addr) (cll : List (Str × Addr)) (fp : List Addr) : Good (X.blk s H scope (compEnvC scope cll C X.env) fp) cl Φ T N j (relS scope sc) WN :=
  ⟨g.wd, g.hN, g.nd, by show relS scope X.env.scope = _; rw [g.sc], g.calm, g.room, takesN⟩
theorem o2_ok (g : Good X cl Φ T N j sc W) {o : Op2} {e a b : Expr} {fa fb : List (Option D) → Sto → Res D} (h : o2E o e = some (a, b)) (ha : PE X a (tE X cl W fa)) (hb : PE X b (tE X cl W fb)) :
    Two X e (tE X cl W fun ρ S => (fa ρ S).bind fun d S => (fb ρ S).bind fun e S => optR ((view S d).bind fun x => (view S e).bind fun y => (prim2 o x y).map .p) S) := by
  have rest : ∀ {o : Op2}, (match vBin e with
      | some (a, op, b) => if decide (opOf op = some o) then some (a, b) else none
      | none => match vCmp e with
        | some (a, op, b) => if decide (cmpOf op = some o) && !behindInMarks op b then some (a, b) else none
        | none => none) = some (a, b) → Two X e (tE X cl W fun ρ S => (fa ρ S).bind fun d S => (fb ρ S).bind fun e S => optR ((view S d).bind fun x => (view S e).bind fun y => (prim2 o x y).map .p) S) := fun {o} h => by
    cases hv : vBin e with
    | some q =>
      obtain ⟨x, op, y⟩ := q
      obtain ⟨p, rfl⟩ := vBin_ok hv
      rw [hv] at h
      obtain ⟨hh, e1⟩ := if_some h
      cases e1
      exact .plain (e_bin (of_decide_eq_true hh) ha hb) (fun _ _ _ _ z => nomatch z)
    | none =>
      rw [hv] at h
      dsimp only at h
      cases hv2 : vCmp e with
      | none => rw [hv2] at h; cases h
      | some q =>
        obtain ⟨x, op, y⟩ := q
        obtain ⟨p, rfl⟩ := vCmp_ok hv2
        rw [hv2] at h
        obtain ⟨hh, e1⟩ := if_some h
        cases e1
        simp only [Bool.and_eq_true, decide_eq_true_eq, Bool.not_eq_true'] at hh
        exact .cmp (c_cmp g.hu hh.1 ha hb) hh.2
  cases o with
  | ix =>
    simp only [o2E] at h
    cases hv : vSub e with
    | none => rw [hv] at h; cases h
    | some q =>
      obtain ⟨x, y⟩ := q
      obtain ⟨p, rfl⟩ := vSub_ok hv
      rw [hv] at h
      obtain ⟨hh, e1⟩ := if_some h
      cases e1
      exact .plain (e_ix g.hu hh ha hb) (fun _ _ _ _ z => nomatch z)
  | add => exact rest h
  | sub => exact rest h
  | mul => exact rest h
  | fdiv => exact rest h
  | mod => exact rest h
  | pow => exact rest h
  | eq => exact rest h
  | ne => exact rest h
  | lt => exact rest h
  | le => exact rest h
  | gt => exact rest h
  | ge => exact rest h
  | mem => exact rest h
  | nmem => exact rest h
theorem cst_ok {c : Const} {p : P} {k : Nat} {pos : Pos} (h : cstB c p = true) : PE X (.Constant c k pos) (tE X cl W fun _ S => .ok (.p p) S) := by
  cases c <;> cases p <;> first | (cases h; done) | skip
  · exact e_cst pe_non fun _ => rfl
  · cases (of_decide_eq_true h); exact e_cst pe_bl fun _ => rfl
  · cases (of_decide_eq_true h); exact e_cst pe_int fun _ => rfl
  · cases (of_decide_eq_true h); exact e_cst pe_str fun _ => rfl
theorem nameB_ok (hN : X.N = N) (hs : X.env.scope = sc) {fnB : Str → Bool} (hf : ∀ x, fnB x = true → X.fn x = true) {e : Expr} {i : Nat} (h : nameB N fnB sc e i = true) : NameAt X e i := by
  unfold nameB at h
  cases hv : vName e with
  | none => rw [hv] at h; cases h
  | some x =>
    obtain ⟨p, rfl⟩ := vName_ok hv
    rw [hv] at h
    simp only [Bool.and_eq_true, decide_eq_true_eq, Bool.or_eq_true] at h
    obtain ⟨⟨h1, h2⟩, h3⟩ := h
    refine ⟨x, p, rfl, by rw [hN]; exact h1, ?_, ?_⟩
    · unfold L2.Loc
      rw [hs]
      unfold locB at h2
      split at h2 <;> first | exact .inl (by assumption) | exact .inr (by assumption) | cases h2
    · refine h3.elim (fun z => .inl (hf x z)) fun z => .inr ?_
      rw [hs]
      unfold isLoc at z
      split at z
      · assumption
      · cases z
theorem namesB_ok (hN : X.N = N) (hs : X.env.scope = sc) {fnB : Str → Bool} (hf : ∀ x, fnB x = true → X.fn x = true) : ∀ {es : List Expr} {is : List Nat}, namesB N fnB sc es is = true → Paired (NameAt X) es is
  | [], [], _ => .nil
  | e :: es, i :: is, h => by
    have h' : (nameB N fnB sc e i && namesB N fnB sc es is) = true := h
    rw [Bool.and_eq_true] at h'
    exact .cons (nameB_ok hN hs hf h'.1) (namesB_ok hN hs hf h'.2)
  | [], _ :: _, h => by cases h
  | _ :: _, [], h => by cases h
theorem tgB_ok (hN : X.N = N) (nd : N.Nodup) (hc : X.calm = true) (hs : X.env.scope = sc) {fnB : Str → Bool} (hf : ∀ x, fnB x = true → X.fn x = true) {tg : Tg} {e : Expr} (h : tgB N fnB sc tg e = true) : PG X e (gT X.K tg) := by
  cases tg with
  | nm i =>
    obtain ⟨x, p, rfl, h1, h2, h3⟩ := nameB_ok hN hs hf h
    exact pg_nm (by rw [hN]; exact nd) h1 h2 h3
  | tp is =>
    simp only [tgB] at h
    cases hv : vTup e with
    | none => rw [hv] at h; cases h
    | some es =>
      obtain ⟨k, p, rfl⟩ := vTup_ok hv
      rw [hv] at h
      exact pg_names hc (by rw [hN]; exact nd) (namesB_ok hN hs hf h)
theorem set_no {iter : Expr} {env : Env} (h : noSet iter = true) : ∀ x, foldedSetIterable iter env x = pure x := fun x => by
  cases iter <;> first | rfl | cases h
theorem own_map (own : List Nat) : (ownOf N own).map (·.2) = own := by
  unfold ownOf
  rw [List.map_map]
  induction own with
  | nil => rfl
  | cons i is ih => rw [List.map_cons, ih]; rfl
/-- a block's facts -/
theorem blk_ok (g : Good X cl Φ T N j sc W) {scope : Scope} {own : List Nat} {tg : Tg} {tge iter : Expr} (h : blkB N sc scope own tg tge iter = true) :
    BlkOk X.N X.env.scope scope (ownOf N own) ∧ (∀ (s : Shared) (H : Hp) (C : Addr) (cll : List (Str × Addr)) (fp : List Addr), PG (X.blk s H scope (compEnvC scope cll C X.env) fp) tge (gT X.K tg)) ∧ (∀ i ∈ tg.names, i ∈ (ownOf N own).map (·.2)) ∧ ∀ x, foldedSetIterable iter X.env x = pure x := by
  unfold blkB at h
  simp only [Bool.and_eq_true] at h
  obtain ⟨⟨⟨h1, h2⟩, h3⟩, h4⟩ := h
  refine ⟨by rw [g.hN, g.sc]; exact blkOk_by h1, fun s H C cll fp => ?_, fun i hi => ?_, set_no h4⟩
  · exact tgB_ok (X := X.blk s H scope (compEnvC scope cll C X.env) fp) g.hN g.nd g.calm (g.blk s H scope C cll fp).sc (fun x h => h) h2
  · rw [own_map]
    rw [List.all_eq_true] at h3
    simpa using h3 i hi
def TwoT (X : Cx) (e : Expr) (t : TT) : Prop := PT X e t ∧ ((vBool e).isSome = true → PW X e t)
end
/-- a line of the table -/
theorem any_mem {α : Type} {l : List α} {p : α → Bool} (h : l.any p = true) : ∃ t ∈ l, p t = true := List.any_eq_true.mp h
mutual
theorem ckE_ok : ∀ (ie : IE) {X : Cx} {sc : Scope} {W : WX} {e : Expr}, Good X cl Φ T N j sc W → ckE T N ie sc e = true → Two X e (tE X cl W (ev Φ ie))
  | .var i, X, sc, W, e, g, h => by
    simp only [ckE] at h
    cases hv : vName e with
    | none => rw [hv] at h; cases h
    | some x =>
      obtain ⟨p, rfl⟩ := vName_ok hv
      rw [hv] at h
      simp only [Bool.and_eq_true, decide_eq_true_eq, okN, Bool.not_eq_true'] at h
      exact .plain (e_var (by rw [g.hN]; exact h.1.1) (vis_of g.sc h.1.2) h.2.1 h.2.2) (fun _ _ _ _ z => nomatch z)
  | .cst p, X, sc, W, e, g, h => by
    simp only [ckE] at h
    cases hv : vCst e with
    | some c =>
      obtain ⟨k, q, rfl⟩ := vCst_ok hv
      rw [hv] at h
      exact .plain (cst_ok h) (fun _ _ _ _ z => nomatch z)
    | none =>
      rw [hv] at h
      dsimp only at h
      cases hv2 : vName e with
      | none => rw [hv2] at h; cases h
      | some x =>
        obtain ⟨q, rfl⟩ := vName_ok hv2
        rw [hv2] at h
        simp only [Bool.and_eq_true] at h
        obtain ⟨t, ht, h2⟩ := any_mem h.2
        simp only [Bool.and_eq_true, decide_eq_true_eq] at h2
        obtain ⟨rfl, h3⟩ := h2
        have e3 := P.eqb_ok _ _ h3
        obtain ⟨u, v, h4, h5, h6, h7⟩ := g.wd.gl t ht
        rw [e3] at h6
        exact .plain (e_cst (pe_glob (gl_of g.sc h.1) h4 h5 h7) h6) (fun _ _ _ _ z => nomatch z)
  | .o1 o a, X, sc, W, e, g, h => by
    simp only [ckE] at h
    cases hv : o1E T sc o e with
    | none => rw [hv] at h; cases h
    | some x =>
      rw [hv] at h
      exact o1_ok g.sc g.calm g.hu g.wd hv (ckE_ok a g h).1
  | .o2 o a b, X, sc, W, e, g, h => by
    simp only [ckE] at h
    cases hv : o2E o e with
    | none => rw [hv] at h; cases h
    | some q =>
      obtain ⟨x, y⟩ := q
      rw [hv] at h
      simp only [Bool.and_eq_true] at h
      exact o2_ok g hv (ckE_ok a g h.1).1 (ckE_ok b g h.2).1
  | .get a b c, X, sc, W, e, g, h => by
    simp only [ckE] at h
    cases hv : vMeth e with
    | none => rw [hv] at h; cases h
    | some q =>
      obtain ⟨o, m, es⟩ := q
      obtain ⟨p, q, rfl, hl⟩ := vMeth_ok hv
      rw [hv] at h
      rcases es with _ | ⟨x, _ | ⟨y, _ | ⟨z, es⟩⟩⟩ <;> first | (cases h; done) | skip
      simp only [Bool.and_eq_true, decide_eq_true_eq] at h
      obtain ⟨⟨⟨⟨⟨⟨h1, h2⟩, h3⟩, h4⟩, h5⟩, h6⟩, h7⟩ := h
      subst h1
      exact .plain (e_get g.hu h2 h3 h4 hl (ckE_ok a g h5).1 (ckE_ok b g h6).1 (ckE_ok c g h7).1) (fun _ _ _ _ z => nomatch z)
  | .slice a bl bh lo hi, X, sc, W, e, g, h => by
    simp only [ckE] at h
    cases hv : vSub e with
    | none => rw [hv] at h; cases h
    | some q =>
      obtain ⟨o, s⟩ := q
      obtain ⟨p, rfl⟩ := vSub_ok hv
      rw [hv] at h
      dsimp only at h
      cases hv2 : vSlice s with
      | none => rw [hv2] at h; cases h
      | some q =>
        obtain ⟨l, u, w⟩ := q
        obtain ⟨p2, rfl⟩ := vSlice_ok hv2
        rw [hv2] at h
        cases w with
        | some w => cases h
        | none =>
          simp only [Bool.and_eq_true, decide_eq_true_eq] at h
          obtain ⟨⟨⟨⟨h1, h2⟩, h3⟩, h4⟩, h5⟩ := h
          have nonI : ∀ {ie : IE}, isNonI ie = true → ∀ ρ S, ev Φ ie ρ S = .ok (.p .non) S := fun {ie} z ρ S => by
            unfold isNonI at z
            split at z
            · rfl
            · cases z
          have pl : PO X l (tO X cl W fun ρ S => (ev Φ lo ρ S).bind fun e S => optR (partOf bl e) S) := part_ok h1 (fun x hx => by
            subst hx
            exact (ckE_ok lo g h4).1) (fun hx => by
            subst hx
            exact nonI h4)
          have ph : PO X u (tO X cl W fun ρ S => (ev Φ hi ρ S).bind fun e S => optR (partOf bh e) S) := part_ok h2 (fun x hx => by
            subst hx
            exact (ckE_ok hi g h5).1) (fun hx => by
            subst hx
            exact nonI h5)
          exact .plain (e_slice (ckE_ok a g h3).1 pl ph) (fun _ _ _ _ z => nomatch z)
  | .and a b, X, sc, W, e, g, h => by
    simp only [ckE] at h
    cases hv : vBool e with
    | none => rw [hv] at h; cases h
    | some q =>
      obtain ⟨op, es, p⟩ := q
      have := vBool_ok hv
      subst this
      rw [hv] at h
      cases op with
      | Or => cases h
      | And =>
        rcases es with _ | ⟨x, _ | ⟨y, r⟩⟩ <;> first | (cases h; done) | skip
        simp only [Bool.and_eq_true] at h
        have hb : PE X (.BoolOp .And (y :: r) p) (tE X cl W (ev Φ b)) := by
          cases r with
          | nil => exact pe_one (ckE_ok b g h.2).1
          | cons z r => exact (ckE_ok b g h.2).1
        exact ⟨e_and (ckE_ok a g h.1).1 hb, fun z => z.elim (fun z => by cases z) fun ⟨_, _, _, _, z⟩ => nomatch z⟩
  | .or a b, X, sc, W, e, g, h => by
    simp only [ckE] at h
    cases hv : vBool e with
    | none => rw [hv] at h; cases h
    | some q =>
      obtain ⟨op, es, p⟩ := q
      have := vBool_ok hv
      subst this
      rw [hv] at h
      cases op with
      | And => rcases es with _ | ⟨x, _ | ⟨y, r⟩⟩ <;> cases h
      | Or =>
        rcases es with _ | ⟨x, _ | ⟨y, r⟩⟩ <;> first | (cases h; done) | skip
        simp only [Bool.and_eq_true] at h
        have hb : PE X (.BoolOp .Or (y :: r) p) (tE X cl W (ev Φ b)) := by
          cases r with
          | nil => exact pe_one (ckE_ok b g h.2).1
          | cons z r => exact (ckE_ok b g h.2).1
        exact ⟨e_or (ckE_ok a g h.1).1 hb, fun z => z.elim (fun z => by cases z) fun ⟨_, _, _, _, z⟩ => nomatch z⟩
  | .ifx c a b, X, sc, W, e, g, h => by
    simp only [ckE] at h
    cases hv : vIf e with
    | none => rw [hv] at h; cases h
    | some q =>
      obtain ⟨t, x, y⟩ := q
      obtain ⟨p, rfl⟩ := vIf_ok hv
      rw [hv] at h
      simp only [Bool.and_eq_true] at h
      exact ⟨e_ifx (ckT_ok c g h.1.1).1 (ckE_ok a g h.1.2).1 (ckE_ok b g h.2).1, fun z => z.elim (fun z => by cases z) fun ⟨_, _, _, _, z⟩ => nomatch z⟩
  | .chain o p a b c, X, sc, W, e, g, h => by
    simp only [ckE] at h
    cases hv : vCmp2 e with
    | none => rw [hv] at h; cases h
    | some q =>
      obtain ⟨x, op, op', y, z⟩ := q
      obtain ⟨q, rfl⟩ := vCmp2_ok hv
      rw [hv] at h
      simp only [Bool.and_eq_true, decide_eq_true_eq, Bool.not_eq_true'] at h
      obtain ⟨⟨⟨⟨⟨h1, h2⟩, h3⟩, h4⟩, h5⟩, h6⟩ := h
      exact ⟨e_chain g.hu h1 h2 h3 (ckE_ok a g h4).1 (ckE_ok b g h5).1 (ckE_ok c g h6).1, fun z => z.elim (fun z => by cases z) fun ⟨_, _, _, _, z⟩ => nomatch z⟩
  | .tup l, X, sc, W, e, g, h => by
    simp only [ckE] at h
    cases hv : vTup e with
    | none => rw [hv] at h; cases h
    | some es =>
      obtain ⟨k, p, rfl⟩ := vTup_ok hv
      rw [hv] at h
      simp only [Bool.and_eq_true] at h
      exact .plain (e_tup (ckL_ok l g h.1 h.2)) (fun _ _ _ _ z => nomatch z)
  | .lst bx l, X, sc, W, e, g, h => by
    simp only [ckE] at h
    cases hv : vLst e with
    | none => rw [hv] at h; cases h
    | some es =>
      obtain ⟨p, rfl⟩ := vLst_ok hv
      rw [hv] at h
      simp only [Bool.and_eq_true] at h
      exact .plain (e_lst (ckL_ok l g h.1 h.2)) (fun _ _ _ _ z => nomatch z)
  | .dnew, X, sc, W, e, g, h => by
    simp only [ckE] at h
    obtain ⟨p, rfl⟩ := vDict_ok h
    exact .plain e_dnew (fun _ _ _ _ z => nomatch z)
  | .call fz i dfl l, X, sc, W, e, g, h => by
    simp only [ckE] at h
    cases hv : vCall e with
    | none => rw [hv] at h; cases h
    | some q =>
      obtain ⟨x, es⟩ := q
      obtain ⟨p, q, rfl⟩ := vCall_ok hv
      rw [hv] at h
      simp only [Bool.and_eq_true] at h
      obtain ⟨⟨⟨h1, h2⟩, h3⟩, h4⟩ := h
      obtain ⟨t, ht, h5⟩ := any_mem h3
      simp only [Bool.and_eq_true, decide_eq_true_eq] at h5
      obtain ⟨⟨rfl, rfl⟩, h6⟩ := h5
      have e6 := P.eqbs_ok _ _ h6
      subst e6
      obtain ⟨f, fd, ps, ds, dvs, F, hm, hk, hb, hd, hdr, hdb⟩ := g.wd.fn t ht
      have ha := ckL_ok l g h1 h4
      cases es with
      | nil =>
        cases l with
        | nil => exact .plain (e_call0 F (g.room.mono (Nat.le_succ _)) (gl_of g.sc h2) hm hk hb hd hdr g.tk hdb) (fun _ _ _ _ z => nomatch z)
        | cons a l => simp only [ckL] at h4; cases h4
      | cons x es => exact .plain (e_call F (g.room.mono (Nat.le_succ _)) (gl_of g.sc h2) hm hk hb hd hdr g.tk hdb h1 ha) (fun _ _ _ _ z => nomatch z)
  | .meth fz c m i .nil, X, sc, W, e, g, h => by
    simp only [ckE] at h
    cases h
  | .meth fz c m i (.cons a l), X, sc, W, e, g, h => by
    simp only [ckE] at h
    cases hv : vMeth e with
    | none => rw [hv] at h; cases h
    | some q =>
      obtain ⟨o, m', es⟩ := q
      obtain ⟨p, q, rfl, hl⟩ := vMeth_ok hv
      rw [hv] at h
      simp only [Bool.and_eq_true, decide_eq_true_eq] at h
      obtain ⟨⟨⟨⟨⟨⟨h1, h2⟩, h3⟩, h4⟩, h5⟩, h6⟩, h7⟩ := h
      subst h1
      obtain ⟨t, ht, h8⟩ := any_mem h2
      simp only [Bool.and_eq_true, decide_eq_true_eq] at h8
      obtain ⟨⟨rfl, h9⟩, rfl⟩ := h8
      obtain ⟨f, fd, ps, hc, hmt, F, hb⟩ := g.wd.mt t ht
      rw [h9] at hmt
      have ha := ckL_ok l g h4 h7
      cases es with
      | nil =>
        cases l with
        | nil => exact .plain (e_meth0 hc hmt F (g.room.mono (Nat.le_succ _)) hb g.tk h3 hl (ckE_ok a g h6).1) (fun _ _ _ _ z => nomatch z)
        | cons a l => simp only [ckL] at h7; cases h7
      | cons x es => exact .plain (e_meth hc hmt F (g.room.mono (Nat.le_succ _)) hb g.tk h3 h4 h5 hl (ckE_ok a g h6).1 ha) (fun _ _ _ _ z => nomatch z)
  | .own1 c i a, X, sc, W, e, g, h => by
    simp only [ckE] at h
    cases hv : vCall e with
    | none => rw [hv] at h; cases h
    | some q =>
      obtain ⟨x, es⟩ := q
      obtain ⟨p, q, rfl⟩ := vCall_ok hv
      rw [hv] at h
      rcases es with _ | ⟨y, _ | ⟨z, es⟩⟩ <;> first | (cases h; done) | skip
      simp only [Bool.and_eq_true] at h
      obtain ⟨⟨⟨h1, h2⟩, h3⟩, h4⟩ := h
      obtain ⟨rfl, hg, hbl⟩ := blt_of h1
      obtain ⟨t, ht, h5⟩ := any_mem h2
      simp only [Bool.and_eq_true, decide_eq_true_eq] at h5
      obtain ⟨rfl, rfl⟩ := h5
      obtain ⟨f, fd, ps, hf, hfn, F, hb⟩ := g.wd.len t ht
      exact .plain (e_own1 hf hfn F g.room hb g.tk (gl_of g.sc hg) (g.wd.bl _ hbl) (by first | rfl | decide +kernel) (by decide +kernel) (by decide +kernel) h3 (ckE_ok a g h4).1) (fun _ _ _ _ z => nomatch z)
  | .own2 c i a b, X, sc, W, e, g, h => by
    simp only [ckE] at h
    cases hv : vBin e with
    | some q =>
      obtain ⟨x, op, y⟩ := q
      obtain ⟨p, rfl⟩ := vBin_ok hv
      rw [hv] at h
      simp only [Bool.and_eq_true] at h
      obtain ⟨⟨h1, h2⟩, h3⟩ := h
      obtain ⟨t, ht, h5⟩ := any_mem h1
      simp only [Bool.and_eq_true, decide_eq_true_eq] at h5
      obtain ⟨⟨rfl, h6⟩, rfl⟩ := h5
      obtain ⟨f, fd, ps, hsf, hf, hfn, F, hb⟩ := g.wd.op t ht
      rw [h6] at hf
      exact .plain (e_own2 hsf hf hfn F (g.room.mono (Nat.le_succ _)) hb g.tk (ckE_ok a g h2).1 (ckE_ok b g h3).1) (fun _ _ _ _ z => nomatch z)
    | none =>
      rw [hv] at h
      dsimp only at h
      cases hv2 : vCmp e with
      | none => rw [hv2] at h; cases h
      | some q =>
        obtain ⟨x, op, y⟩ := q
        obtain ⟨p, rfl⟩ := vCmp_ok hv2
        rw [hv2] at h
        cases op <;> first | (cases h; done) | skip
        simp only [Bool.and_eq_true] at h
        obtain ⟨⟨h1, h2⟩, h3⟩ := h
        obtain ⟨t, ht, h5⟩ := any_mem h1
        simp only [Bool.and_eq_true, decide_eq_true_eq] at h5
        obtain ⟨rfl, rfl⟩ := h5
        obtain ⟨f, fd, ps, hf, hfn, F, hb⟩ := g.wd.eq t ht
        exact .cmp (c_eqI g.hu hf hfn F (g.room.mono (Nat.le_succ _)) hb g.tk (ckE_ok a g h2).1 (ckE_ok b g h3).1) (nomark _)
  | .ne c i a b, X, sc, W, e, g, h => by
    simp only [ckE] at h
    cases hv2 : vCmp e with
    | none => rw [hv2] at h; cases h
    | some q =>
      obtain ⟨x, op, y⟩ := q
      obtain ⟨p, rfl⟩ := vCmp_ok hv2
      rw [hv2] at h
      cases op <;> first | (cases h; done) | skip
      simp only [Bool.and_eq_true] at h
      obtain ⟨⟨h1, h2⟩, h3⟩ := h
      obtain ⟨t, ht, h5⟩ := any_mem h1
      simp only [Bool.and_eq_true, decide_eq_true_eq] at h5
      obtain ⟨rfl, rfl⟩ := h5
      obtain ⟨f, fd, ps, hn, ho, hf, hfn, F, hb⟩ := g.wd.ne t ht
      exact .cmp (c_ne g.hu hn ho hf hfn F g.room hb g.tk (ckE_ok a g h2).1 (ckE_ok b g h3).1) (nomark _)
  | .isin c i a b, X, sc, W, e, g, h => by
    simp only [ckE] at h
    cases hv2 : vCmp e with
    | none => rw [hv2] at h; cases h
    | some q =>
      obtain ⟨x, op, y⟩ := q
      obtain ⟨p, rfl⟩ := vCmp_ok hv2
      rw [hv2] at h
      cases op <;> first | (cases h; done) | skip
      simp only [Bool.and_eq_true, Bool.not_eq_true'] at h
      obtain ⟨⟨⟨h1, h0⟩, h2⟩, h3⟩ := h
      obtain ⟨t, ht, h5⟩ := any_mem h1
      simp only [Bool.and_eq_true, decide_eq_true_eq] at h5
      obtain ⟨rfl, rfl⟩ := h5
      obtain ⟨f, fd, ps, hf, hfn, F, hb⟩ := g.wd.isin t ht
      exact .cmp (c_isin hf hfn F (g.room.mono (Nat.le_succ _)) hb g.tk (ckE_ok a g h2).1 (ckE_ok b g h3).1) h0
  | .mk fz c i dfl l, X, sc, W, e, g, h => by
    simp only [ckE] at h
    cases hv : vCall e with
    | none => rw [hv] at h; cases h
    | some q =>
      obtain ⟨x, es⟩ := q
      obtain ⟨p, q, rfl⟩ := vCall_ok hv
      rw [hv] at h
      simp only [Bool.and_eq_true] at h
      obtain ⟨⟨⟨h1, h2⟩, h3⟩, h4⟩ := h
      obtain ⟨t, ht, h5⟩ := any_mem h3
      simp only [Bool.and_eq_true, decide_eq_true_eq] at h5
      obtain ⟨⟨⟨rfl, rfl⟩, rfl⟩, h6⟩ := h5
      have e6 := P.eqbs_ok _ _ h6
      subst e6
      obtain ⟨f, fd, ps, ds, dvs, M, F, hm, hb, hd, hdr, hdb⟩ := g.wd.mkr t ht
      have ha := ckL_ok l g h1 h4
      cases es with
      | nil =>
        cases l with
        | nil => exact .plain (e_mk0 M F g.room (gl_of g.sc h2) hm hb hd hdr g.tk hdb) (fun _ _ _ _ z => nomatch z)
        | cons a l => simp only [ckL] at h4; cases h4
      | cons x es => exact .plain (e_mk M F g.room (gl_of g.sc h2) hm hb hd hdr g.tk hdb h1 ha) (fun _ _ _ _ z => nomatch z)
  | .fld c f a, X, sc, W, e, g, h => by
    simp only [ckE] at h
    cases hv : vAttr e with
    | none => rw [hv] at h; cases h
    | some q =>
      obtain ⟨o, m⟩ := q
      obtain ⟨p, rfl⟩ := vAttr_ok hv
      rw [hv] at h
      simp only [Bool.and_eq_true, decide_eq_true_eq] at h
      obtain ⟨⟨⟨rfl, h2⟩, h3⟩, h4⟩ := h
      obtain ⟨t, ht, h5⟩ := any_mem h2
      simp only [Bool.and_eq_true, decide_eq_true_eq] at h5
      obtain ⟨rfl, h6⟩ := h5
      obtain ⟨hc, hn⟩ := g.wd.fl t ht
      rw [h6] at hn
      exact .plain (e_fld hc hn h3 (ckE_ok a g h4).1) (fun _ _ _ _ z => nomatch z)
  | .mut m o a, X, sc, W, e, g, h => by
    simp only [ckE] at h
    cases hv : vMeth e with
    | none => rw [hv] at h; cases h
    | some q =>
      obtain ⟨x, n, es⟩ := q
      obtain ⟨p, q, rfl, hl⟩ := vMeth_ok hv
      rw [hv] at h
      rcases es with _ | ⟨y, _ | ⟨z, es⟩⟩ <;> first | (cases h; done) | skip
      simp only [Bool.and_eq_true] at h
      obtain ⟨⟨⟨⟨h1, h2⟩, h3⟩, h4⟩, h5⟩ := h
      cases m with
      | append =>
        have := of_decide_eq_true h1
        subst this
        exact .plain (e_append h2 h3 hl (ckE_ok o g h4).1 (ckE_ok a g h5).1) (fun _ _ _ _ z => nomatch z)
      | extend =>
        have := of_decide_eq_true h1
        subst this
        exact .plain (e_extend h2 h3 hl (ckE_ok o g h4).1 (ckE_ok a g h5).1) (fun _ _ _ _ z => nomatch z)
      | remove => cases h1
  | .lc bx own elt tg src cond, X, sc, W, e, g, h => by
    simp only [ckE] at h
    cases hv : vLc e with
    | none => rw [hv] at h; cases h
    | some q =>
      obtain ⟨x, tge, iter, ifs, scope⟩ := q
      obtain ⟨p, rfl⟩ := vLc_ok hv
      rw [hv] at h
      simp only [Bool.and_eq_true] at h
      obtain ⟨⟨⟨h1, h2⟩, h3⟩, h4⟩ := h
      obtain ⟨ok, hg, hvn, hset⟩ := blk_ok g h1
      have hn : X.N.Nodup := by rw [g.hN]; exact g.nd
      have ht : ∀ (s : Shared) (H : Hp) (C : Addr) (cll : List (Str × Addr)) (fp : List Addr), PTs (X.blk s H scope (compEnvC scope cll C X.env) fp) ifs (tT X cl WN (evT Φ cond)) := fun s H C cll fp => by
        rcases ifs with _ | ⟨c, _ | ⟨c2, ifs⟩⟩
        · cases cond <;> first | exact ts_nil | cases h3
        · exact ts_one (ckT_ok cond (g.blk s H scope C cll fp) h3).1
        · cases h3
      have hE : ∀ (s : Shared) (H : Hp) (C : Addr) (cll : List (Str × Addr)) (fp : List Addr), PE (X.blk s H scope (compEnvC scope cll C X.env) fp) x (tE X cl WN (ev Φ elt)) := fun s H C cll fp => (ckE_ok elt (g.blk s H scope C cll fp) h4).1
      have key := pe_lc (pos := p) g.calm hn (ckS_ok src g h2) ok hg ht hE hset
      refine .plain (key.imp fun σ H Q hw => lc_imp (cl := cl) (bx := bx) hvn ?_) (fun _ _ _ _ z => nomatch z)
      rw [own_map]
      exact hw
  | .dc bx own k v tg src cond, X, sc, W, e, g, h => by
    simp only [ckE] at h
    cases hv : vDc e with
    | none => rw [hv] at h; cases h
    | some q =>
      obtain ⟨x, y, tge, iter, ifs, scope⟩ := q
      obtain ⟨p, rfl⟩ := vDc_ok hv
      rw [hv] at h
      simp only [Bool.and_eq_true] at h
      obtain ⟨⟨⟨⟨h1, h2⟩, h3⟩, h4⟩, h5⟩ := h
      obtain ⟨ok, hg, hvn, hset⟩ := blk_ok g h1
      have hn : X.N.Nodup := by rw [g.hN]; exact g.nd
      have ht : ∀ (s : Shared) (H : Hp) (C : Addr) (cll : List (Str × Addr)) (fp : List Addr), PTs (X.blk s H scope (compEnvC scope cll C X.env) fp) ifs (tT X cl WN (evT Φ cond)) := fun s H C cll fp => by
        rcases ifs with _ | ⟨c, _ | ⟨c2, ifs⟩⟩
        · cases cond <;> first | exact ts_nil | cases h3
        · exact ts_one (ckT_ok cond (g.blk s H scope C cll fp) h3).1
        · cases h3
      have hK : ∀ (s : Shared) (H : Hp) (C : Addr) (cll : List (Str × Addr)) (fp : List Addr), PE (X.blk s H scope (compEnvC scope cll C X.env) fp) x (tE X cl WN (ev Φ k)) := fun s H C cll fp => (ckE_ok k (g.blk s H scope C cll fp) h4).1
      have hE : ∀ (s : Shared) (H : Hp) (C : Addr) (cll : List (Str × Addr)) (fp : List Addr), PE (X.blk s H scope (compEnvC scope cll C X.env) fp) y (tE X cl WN (ev Φ v)) := fun s H C cll fp => (ckE_ok v (g.blk s H scope C cll fp) h5).1
      have key := pe_dc (pos := p) g.calm hn (ckS_ok src g h2) ok hg ht hK hE hset
      refine .plain (key.imp fun σ H Q hw => dc_imp (cl := cl) (bx := bx) hvn ?_) (fun _ _ _ _ z => nomatch z)
      rw [own_map]
      exact hw
theorem ckT_ok : ∀ (it : IT) {X : Cx} {sc : Scope} {W : WX} {e : Expr}, Good X cl Φ T N j sc W → ckT T N it sc e = true → TwoT X e (tT X cl W (evT Φ it))
  | .tt, X, sc, W, e, g, h => by
    simp only [ckT] at h
    cases h
  | .tr a, X, sc, W, e, g, h => by
    simp only [ckT, Bool.and_eq_true, Bool.or_eq_true] at h
    refine ⟨t_tru ((ckE_ok a g h.2).2 (h.1.imp id fun z => ?_)), fun z => ?_⟩
    · obtain ⟨q, hq⟩ := Option.isSome_iff_exists.mp z
      obtain ⟨x, op, y⟩ := q
      obtain ⟨p, rfl⟩ := vCmp_ok hq
      exact ⟨_, _, _, _, rfl⟩
    · obtain ⟨q, hq⟩ := Option.isSome_iff_exists.mp z
      obtain ⟨op, es, p⟩ := q
      have := vBool_ok hq
      subst this
      exact absurd h.1 (by simp [plainTest, vCmp])
  | .not t, X, sc, W, e, g, h => by
    simp only [ckT] at h
    cases hv : vUn e with
    | none => rw [hv] at h; cases h
    | some q =>
      obtain ⟨op, x⟩ := q
      obtain ⟨p, rfl⟩ := vUn_ok hv
      rw [hv] at h
      cases op <;> first | (cases h; done) | skip
      exact ⟨t_not (ckT_ok t g h).1, fun z => by cases z⟩
  | .and t u, X, sc, W, e, g, h => by
    simp only [ckT] at h
    cases hv : vBool e with
    | none => rw [hv] at h; cases h
    | some q =>
      obtain ⟨op, es, p⟩ := q
      have := vBool_ok hv
      subst this
      rw [hv] at h
      cases op with
      | Or => cases h
      | And =>
        rcases es with _ | ⟨x, _ | ⟨y, r⟩⟩ <;> first | (cases h; done) | skip
        simp only [Bool.and_eq_true] at h
        have hb : PW X (.BoolOp .And (y :: r) p) (tT X cl W (evT Φ u)) := by
          cases r with
          | nil => exact pw_and1 (ckT_ok u g h.2).1
          | cons z r => exact (ckT_ok u g h.2).2 rfl
        have k := t_and (ckT_ok t g h.1).1 hb
        exact ⟨k.pt, fun _ => k⟩
  | .or t u, X, sc, W, e, g, h => by
    simp only [ckT] at h
    cases hv : vBool e with
    | none => rw [hv] at h; cases h
    | some q =>
      obtain ⟨op, es, p⟩ := q
      have := vBool_ok hv
      subst this
      rw [hv] at h
      cases op with
      | And => rcases es with _ | ⟨x, _ | ⟨y, r⟩⟩ <;> cases h
      | Or =>
        rcases es with _ | ⟨x, _ | ⟨y, r⟩⟩ <;> first | (cases h; done) | skip
        simp only [Bool.and_eq_true] at h
        have hb : PW X (.BoolOp .Or (y :: r) p) (tT X cl W (evT Φ u)) := by
          cases r with
          | nil => exact pw_or1 (ckT_ok u g h.2).1
          | cons z r => exact (ckT_ok u g h.2).2 rfl
        have k := t_or (ckT_ok t g h.1).1 hb
        exact ⟨k.pt, fun _ => k⟩
theorem ckL_ok : ∀ (l : IL) {X : Cx} {sc : Scope} {W : WX} {es : List Expr}, Good X cl Φ T N j sc W → es.all noStar = true → ckL T N l sc es = true → PA X es (tA X cl W (evL Φ l))
  | .nil, X, sc, W, es, g, hs, h => by
    simp only [ckL] at h
    cases es with
    | nil => exact a_nil
    | cons _ _ => cases h
  | .cons a l, X, sc, W, es, g, hs, h => by
    simp only [ckL] at h
    cases es with
    | nil => cases h
    | cons e es =>
      simp only [Bool.and_eq_true] at h
      rw [List.all_cons, Bool.and_eq_true] at hs
      exact a_cons hs.1 (ckE_ok a g h.1).1 (ckL_ok l g hs.2 h.2)
theorem ckS_ok : ∀ (s : Src) {X : Cx} {sc : Scope} {W : WX} {e tg : Expr}, Good X cl Φ T N j sc W → ckS T N s sc e = true → PI X tg e (tI X cl W (evS Φ s))
  | .seq a, X, sc, W, e, tg, g, h => by
    simp only [ckS] at h
    exact s_seq (ckE_ok a g h).1
  | .rng1 a, X, sc, W, e, tg, g, h => by
    simp only [ckS] at h
    cases hv : vCall e with
    | none => rw [hv] at h; cases h
    | some q =>
      obtain ⟨x, es⟩ := q
      obtain ⟨p, q, rfl⟩ := vCall_ok hv
      rw [hv] at h
      rcases es with _ | ⟨y, _ | ⟨z, es⟩⟩ <;> first | (cases h; done) | skip
      simp only [Bool.and_eq_true] at h
      obtain ⟨rfl, hg, hb⟩ := blt_of h.1.1
      exact s_rng1 (gl_of g.sc hg) (g.wd.bl _ hb) h.1.2 (ckE_ok a g h.2).1
  | .rng2 a b, X, sc, W, e, tg, g, h => by
    simp only [ckS] at h
    cases hv : vCall e with
    | none => rw [hv] at h; cases h
    | some q =>
      obtain ⟨x, es⟩ := q
      obtain ⟨p, q, rfl⟩ := vCall_ok hv
      rw [hv] at h
      rcases es with _ | ⟨y, _ | ⟨z, _ | ⟨w, es⟩⟩⟩ <;> first | (cases h; done) | skip
      simp only [Bool.and_eq_true] at h
      obtain ⟨rfl, hg, hb⟩ := blt_of h.1.1.1.1
      exact s_rng2 (gl_of g.sc hg) (g.wd.bl _ hb) h.1.1.1.2 h.1.1.2 (ckE_ok a g h.1.2).1 (ckE_ok b g h.2).1
  | .items _, X, sc, W, e, tg, g, h => by simp only [ckS] at h; cases h
  | .enum _, X, sc, W, e, tg, g, h => by simp only [ckS] at h; cases h
  | .zip _ _, X, sc, W, e, tg, g, h => by simp only [ckS] at h; cases h
end
end PD
/-! The check: statements. -/
namespace PD
open PySem L2 PySem.Spec PyProof.Rows
def isStar : Expr → Bool
  | .Starred _ _ => true
  | _ => false
def locN (sc : Scope) (line : Nat) : Expr → Option Str
  | .Name id pos => if sc.names.lookup id == some .local && pos.line == line then some id else none
  | _ => none
def lineOf (ts : List Expr) : Nat := (ts.head?.map (·.pos.line)).getD 0
/-- the names of stores that go from the right -/
def swL (sc : Scope) (ts vs : List Expr) : Option (List Str) :=
  if (!(ts.length == 2 || ts.length == 3) || vs.length != ts.length) = true then none else
  if vs.any isStar = true then none else
  if ((ts.filterMap (locN sc (lineOf ts))).length != ts.length || (ts.filterMap (locN sc (lineOf ts))).eraseDups.length != (ts.filterMap (locN sc (lineOf ts))).length) = true then none else
  if vs.all (foldedForSure 8) = true then none else some (ts.filterMap (locN sc (lineOf ts)))
theorem swL_ok {sc : Scope} {env : Env} {ts vs : List Expr} {k k2 : Nat} {p p2 : Pos} (hs : env.scope = sc) (hk : sc.kind = .function) (h : swL sc ts vs = none ∨ vs.all (constantsAlone 8) = false) : swappedStores [.Tuple ts k p] (.Tuple vs k2 p2) env = pure (swL sc ts vs) := by
  subst hs
  have hb : env.blockKind = .function := by
    unfold Env.blockKind
    rw [hk]
    rfl
  have hbn : (env.blockKind != .function) = false := by rw [hb]; rfl
  unfold swappedStores
  show (if (!(ts.length == 2 || ts.length == 3) || vs.length != ts.length || env.blockKind != .function) = true then (pure none : Sem (Option (List Str))) else _) = _
  rw [hbn, Bool.or_false]
  unfold swL at h ⊢
  by_cases c1 : (!(ts.length == 2 || ts.length == 3) || vs.length != ts.length) = true
  · rw [if_pos c1, if_pos c1]
  · rw [if_neg c1] at h ⊢
    rw [if_neg c1]
    show (if vs.any isStar = true then (pure none : Sem (Option (List Str))) else _) = _
    by_cases c2 : vs.any isStar = true
    · rw [if_pos c2, if_pos c2]
    · rw [if_neg c2] at h ⊢
      rw [if_neg c2]
      show (if ((ts.filterMap (locN env.scope (lineOf ts))).length != ts.length || (ts.filterMap (locN env.scope (lineOf ts))).eraseDups.length != (ts.filterMap (locN env.scope (lineOf ts))).length) = true then (pure none : Sem (Option (List Str))) else _) = _
      by_cases c3 : ((ts.filterMap (locN env.scope (lineOf ts))).length != ts.length || (ts.filterMap (locN env.scope (lineOf ts))).eraseDups.length != (ts.filterMap (locN env.scope (lineOf ts))).length) = true
      · rw [if_pos c3, if_pos c3]
      · rw [if_neg c3] at h ⊢
        rw [if_neg c3]
        by_cases c4 : vs.all (foldedForSure 8) = true
        · rw [if_pos c4, if_pos c4]
        · rw [if_neg c4] at h ⊢
          rw [if_neg c4]
          have c5 : vs.all (constantsAlone 8) = false := h.resolve_left fun z => by cases z
          rw [if_neg (by rw [c5]; exact Bool.false_ne_true)]
          rfl
/-! ### statements -/
def lcSwap (sc : Scope) (x : Str) (line : Nat) : Expr → Bool
  | .ListComp _ _ scope p => isLoc sc x && (line == p.line) && !(scope.names.any fun (n, k) => n == x && (k == .local || k == .cell))
  | _ => false
def isLc : IE → Bool
  | .lc _ _ _ _ _ _ => true
  | _ => false
/-- x = v at a name: plain, swapped, or a comprehension that is not swapped -/
def setB (sc : Scope) (x : Str) (line : Nat) (ie : IE) (v : Expr) : Bool := noComp v || (isLc ie && lcSwap sc x line v) || (!isLoc sc x)
def isNameB (e : Expr) (x : Str) : Bool := match vName e with
  | some y => decide (x = y)
  | none => false
def parB (sc : Scope) (es vs : List Expr) (xs : List Str) : Bool := decide (swL sc es vs = some xs) && !(vs.all (constantsAlone 8))
section
variable (T : Tab) (N : List Str)
mutual
def ckSt : IS → Scope → Stmt → Bool
  | .set t e => fun sc st => match st with
    | .Assign [tg] v _ => (match t with
      | .nm i => nameB N (fun _ => true) sc tg i && (match vName tg with
        | some x => setB sc x tg.pos.line e v
        | none => false)
      | .tp is => match vTup tg with
        | some es => namesB N (fun _ => true) sc es is && (match vTup v with
          | some vs => decide (swL sc es vs = none)
          | none => true)
        | none => false) && ckE T N e sc v
    | _ => false
  | .par i j a b => fun sc st => match st with
    | .Assign [tg] v _ => (match vTup tg, vTup v with
      | some [e1, e2], some [v1, v2] => nameB N (fun _ => true) sc e1 i && nameB N (fun _ => true) sc e2 j && (match vName e1, vName e2 with
        | some x, some y => isLoc sc x && isLoc sc y && parB sc [e1, e2] [v1, v2] [x, y]
        | _, _ => false) && decide (i ≠ j) && noStar v1 && noStar v2 && ckE T N a sc v1 && ckE T N b sc v2
      | _, _ => false)
    | _ => false
  | .par3 i j l a b c => fun sc st => match st with
    | .Assign [tg] v _ => (match vTup tg, vTup v with
      | some [e1, e2, e3], some [v1, v2, v3] => nameB N (fun _ => true) sc e1 i && nameB N (fun _ => true) sc e2 j && nameB N (fun _ => true) sc e3 l && (match vName e1, vName e2, vName e3 with
        | some x, some y, some z => isLoc sc x && isLoc sc y && isLoc sc z && parB sc [e1, e2, e3] [v1, v2, v3] [x, y, z]
        | _, _, _ => false) && decide (i ≠ j) && decide (i ≠ l) && decide (j ≠ l) && noStar v1 && noStar v2 && noStar v3 && ckE T N a sc v1 && ckE T N b sc v2 && ckE T N c sc v3
      | _, _ => false)
    | _ => false
  | .aug o i e => fun sc st => match st with
    | .AugAssign tg op v _ => decide (opOf op = some o) && nameB N (fun _ => true) sc tg i && ckE T N e sc v
    | _ => false
  | .auge i e => fun sc st => match st with
    | .AugAssign tg op v _ => decide (op = .Add) && nameB N (fun _ => true) sc tg i && ckE T N e sc v
    | _ => false
  | .ixset o k v => fun sc st => match st with
    | .Assign [tg] e _ => (match vSub tg with
      | some (x, y) => noSlice y && ckE T N o sc x && ckE T N k sc y && ckE T N v sc e
      | none => false)
    | _ => false
  | .ixaug q o k v => fun sc st => match st with
    | .AugAssign tg op e _ => (match vSub tg with
      | some (x, y) => decide (opOf op = some q) && noSlice y && ckE T N o sc x && ckE T N k sc y && ckE T N v sc e
      | none => false)
    | _ => false
  | .fset c f o v => fun sc st => match st with
    | .Assign [tg] e _ => (match vAttr tg with
      | some (x, m) => decide (m = f) && (T.fls.any fun t => decide (t.1 = c) && decide (t.2 = f)) && ckE T N o sc x && ckE T N v sc e
      | none => false)
    | _ => false
  | .ex e => fun sc st => match st with
    | .Expr v _ => noComp v && ckE T N e sc v
    | _ => false
  | .iff c a b => fun sc st => match st with
    | .If t x y _ => ckT T N c sc t && ckB a sc x && ckB b sc y
    | _ => false
  | .whl c b => fun sc st => match st with
    | .While t x [] _ => ckT T N c sc t && ckB b sc x
    | _ => false
  | .for_ tg src b => fun sc st => match st with
    | .For t it x [] _ => tgB N (fun _ => true) sc tg t && noSet it && ckS T N src sc it && ckB b sc x
    | _ => false
  | .ret _ e => fun sc st => match st with
    | .Return (some v) _ => ckE T N e sc v
    | _ => false
  | .retN => fun _ st => match st with
    | .Return none _ => true
    | _ => false
  | .pass => fun _ st => match st with
    | .Pass _ => true
    | _ => false
  | .bad => fun _ _ => true
def ckB : IB → Scope → List Stmt → Bool
  | .nil => fun _ sts => sts.isEmpty
  | .cons s b => fun sc sts => match sts with
    | [] => false
    | st :: sts => ckSt s sc st && ckB b sc sts
end
end
section
variable {cl : Nat → Addr} {Φ : Nat → List Arg → LR} {T : Tab} {N : List Str} {j : Nat} {X : Cx} {sc : Scope} {W : WX} {fuel : Nat}
/-- a body's context -/
structure GoodS (X : Cx) (cl : Nat → Addr) (Φ : Nat → List Arg → LR) (T : Tab) (N : List Str) (j : Nat) (sc : Scope) (W : WX) : Prop where
  g : Good X cl Φ T N j sc W
  fn : ∀ y, X.fn y = true
  own : PassesOwn (model X.prog X.w) X.A X.env X.xe
  kind : sc.kind = .function
theorem isLoc_ok {x : Str} (hs : X.env.scope = sc) (h : isLoc sc x = true) : X.env.scope.names.lookup x = some .local := by
  rw [hs]
  unfold isLoc at h
  split at h
  · assumption
  · cases h
/-- a comprehension at a name that is not a plain local: not swapped -/
theorem swaps_cell {x : Str} {px : Pos} {v : Expr} {l : Nat} (hs : X.env.scope = sc) (h : isLoc sc x = false) : swapsWith v (some (.Name x px)) l X.env = pure false := by
  have hk : (X.env.kindOf x == some .local) = false := by
    unfold Env.kindOf
    rw [hs]
    unfold isLoc at h
    split at h
    · cases h
    · rename_i hn
      cases hl : sc.names.lookup x with
      | none => rfl
      | some k =>
        cases k <;> first | rfl | exact absurd hl hn
  cases v <;> first | rfl | skip
  all_goals
    unfold swapsWith
    simp only [hk, Bool.and_false, Bool.false_and]
theorem s_set_ok (gs : GoodS X cl Φ T N j sc W) {i : Nat} {e : IE} {tg v : Expr} {pos : Pos} (h : (nameB N (fun _ => true) sc tg i && (match vName tg with
        | some x => setB sc x tg.pos.line e v
        | none => false)) = true) (he : ckE T N e sc v = true) : PS X (.Assign [tg] v pos) (tS X cl W (ex Φ fuel (.set (.nm i) e))) := by
  rw [Bool.and_eq_true] at h
  obtain ⟨h1, h2⟩ := h
  obtain ⟨x, p, rfl, hi, hl, hf⟩ := nameB_ok gs.g.hN gs.g.sc (fun x _ => gs.fn x) h1
  have hN : X.N.Nodup := by rw [gs.g.hN]; exact gs.g.nd
  have pe := (ckE_ok e gs.g he).1
  simp only [vName, setB, Bool.or_eq_true, Bool.and_eq_true, Bool.not_eq_true'] at h2
  show PS X _ (tS X cl W fun ρ S => (ev Φ e ρ S).out ρ fun d S => .next (ρ.set i (some d)) S)
  rcases h2 with (h2 | h2) | h2
  · exact s_set (ps_set hN hi hl pe (swaps_no h2) hf)
  · obtain ⟨hlc, hsw⟩ := h2
    cases e <;> first | (cases hlc; done) | skip
    rename_i bx own elt tg src cond
    simp only [ckE] at he
    cases hv : vLc v with
    | none => rw [hv] at he; cases he
    | some q =>
      obtain ⟨y, tge, iter, ifs, scope⟩ := q
      obtain ⟨p2, rfl⟩ := vLc_ok hv
      rw [hv] at he
      simp only [Bool.and_eq_true] at he
      obtain ⟨⟨⟨g1, g2⟩, g3⟩, g4⟩ := he
      obtain ⟨ok, hg, hvn, hset⟩ := blk_ok gs.g g1
      have ht : ∀ (s : Shared) (H : Hp) (C : Addr) (cll : List (Str × Addr)) (fp : List Addr), PTs (X.blk s H scope (compEnvC scope cll C X.env) fp) ifs (tT X cl WN (evT Φ cond)) := fun s H C cll fp => by
        rcases ifs with _ | ⟨c, _ | ⟨c2, ifs⟩⟩
        · cases cond <;> first | exact ts_nil | cases g3
        · exact ts_one (ckT_ok cond (gs.g.blk s H scope C cll fp) g3).1
        · cases g3
      have hE : ∀ (s : Shared) (H : Hp) (C : Addr) (cll : List (Str × Addr)) (fp : List Addr), PE (X.blk s H scope (compEnvC scope cll C X.env) fp) y (tE X cl WN (ev Φ elt)) := fun s H C cll fp => (ckE_ok elt (gs.g.blk s H scope C cll fp) g4).1
      simp only [lcSwap, Bool.and_eq_true, Bool.not_eq_true'] at hsw
      obtain ⟨⟨s1, s2⟩, s3⟩ := hsw
      have hloc := isLoc_ok gs.g.sc s1
      refine s_set ((ps_setLc (pos := p2) (spos := pos) gs.g.calm hN hi hloc (sw_true (by rw [gs.g.sc]; exact gs.kind) hloc s2 s3) (ckS_ok src gs.g g2) ok hg ht hE hset).imp fun E σ H hw => ?_)
      refine lc_imp (cl := cl) (bx := bx) hvn ?_
      rw [own_map]
      exact hw
  · exact s_set (ps_set hN hi hl pe (swaps_cell gs.g.sc h2) hf)
theorem s_tp_ok (gs : GoodS X cl Φ T N j sc W) {is : List Nat} {e : IE} {tg v : Expr} {pos : Pos} (h : (match vTup tg with
        | some es => namesB N (fun _ => true) sc es is && (match vTup v with
          | some vs => decide (swL sc es vs = none)
          | none => true)
        | none => false) = true) (he : ckE T N e sc v = true) : PS X (.Assign [tg] v pos) (tS X cl W (ex Φ fuel (.set (.tp is) e))) := by
  cases hv : vTup tg with
  | none => rw [hv] at h; cases h
  | some es =>
    obtain ⟨k, p, rfl⟩ := vTup_ok hv
    rw [hv] at h
    simp only [Bool.and_eq_true] at h
    obtain ⟨h1, h2⟩ := h
    have hN : X.N.Nodup := by rw [gs.g.hN]; exact gs.g.nd
    have pe := (ckE_ok e gs.g he).1
    have pg := pg_names (k := k) (pos := p) gs.g.calm hN (namesB_ok gs.g.hN gs.g.sc (fun x _ => gs.fn x) h1)
    have hw : swappedStores [.Tuple es k p] v X.env = pure none := by
      cases hv2 : vTup v with
      | some vs =>
        obtain ⟨k2, p2, rfl⟩ := vTup_ok hv2
        rw [hv2] at h2
        have e0 := of_decide_eq_true h2
        rw [swL_ok gs.g.sc gs.kind (.inl e0), e0]
      | none => cases v <;> first | rfl | cases hv2
    exact s_tp (ps_asg pe pg (swaps_tup : swapsWith v (some (.Tuple es k p)) pos.line X.env = pure false) hw)
theorem vName_tup {e : Expr} {x : Str} {i : Nat} (gs : GoodS X cl Φ T N j sc W) (h : nameB N (fun _ => true) sc e i = true) (hv : vName e = some x) : ∃ p, e = .Name x p ∧ X.N[i]? = some x := by
  obtain ⟨y, p, rfl, hi, _, _⟩ := nameB_ok gs.g.hN gs.g.sc (fun x _ => gs.fn x) h
  cases hv
  exact ⟨p, rfl, hi⟩
mutual
theorem ckSt_ok : ∀ (is : IS) {st : Stmt}, GoodS X cl Φ T N j sc W → ckSt T N is sc st = true → PS X st (tS X cl W (ex Φ fuel is))
  | .set t e, st, gs, h => by
    simp only [ckSt] at h
    split at h
    · simp only [Bool.and_eq_true] at h
      cases t with
      | nm i => exact s_set_ok gs (by simpa only [Bool.and_eq_true] using h.1) h.2
      | tp is => exact s_tp_ok gs h.1 h.2
    · cases h
  | .par i jj a b, st, gs, h => by
    simp only [ckSt] at h
    split at h
    · rename_i tg v pos
      cases hv : vTup tg with
      | none => rw [hv] at h; cases h
      | some es =>
        obtain ⟨k, p, rfl⟩ := vTup_ok hv
        cases hv2 : vTup v with
        | none =>
          rw [hv, hv2] at h
          rcases es with _ | ⟨e1, _ | ⟨e2, _ | ⟨e3, es⟩⟩⟩ <;> cases h
        | some vs =>
          obtain ⟨k2, p2, rfl⟩ := vTup_ok hv2
          rw [hv, hv2] at h
          rcases es with _ | ⟨e1, _ | ⟨e2, _ | ⟨e3, es⟩⟩⟩ <;> first | (cases h; done) | skip
          rcases vs with _ | ⟨v1, _ | ⟨v2, _ | ⟨v3, vs⟩⟩⟩ <;> first | (cases h; done) | skip
          simp only [Bool.and_eq_true, decide_eq_true_eq] at h
          obtain ⟨⟨⟨⟨⟨⟨⟨h1, h2⟩, h3⟩, h4⟩, h5⟩, h6⟩, h7⟩, h8⟩ := h
          cases hn1 : vName e1 with
          | none => rw [hn1] at h3; cases h3
          | some x =>
            cases hn2 : vName e2 with
            | none => rw [hn1, hn2] at h3; cases h3
            | some y =>
              rw [hn1, hn2] at h3
              obtain ⟨q1, rfl, i1⟩ := vName_tup gs h1 hn1
              obtain ⟨q2, rfl, i2⟩ := vName_tup gs h2 hn2
              simp only [Bool.and_eq_true, parB, decide_eq_true_eq, Bool.not_eq_true'] at h3
              obtain ⟨⟨l1, l2⟩, l3, l4⟩ := h3
              have hN : X.N.Nodup := by rw [gs.g.hN]; exact gs.g.nd
              have pa := pa_cons (ckE_ok a gs.g h7).1 (pa_cons (ckE_ok b gs.g h8).1 pa_nil (star_cons h6)) (star_cons h5)
              exact s_par (ps_par gs.g.calm hN i1 i2 h4 (isLoc_ok gs.g.sc l1) (isLoc_ok gs.g.sc l2) pa (by rw [swL_ok gs.g.sc gs.kind (.inr l4), l3]))
    · cases h
  | .par3 i jj l a b c, st, gs, h => by
    simp only [ckSt] at h
    split at h
    · rename_i tg v pos
      cases hv : vTup tg with
      | none => rw [hv] at h; cases h
      | some es =>
        obtain ⟨k, p, rfl⟩ := vTup_ok hv
        cases hv2 : vTup v with
        | none =>
          rw [hv, hv2] at h
          rcases es with _ | ⟨e1, _ | ⟨e2, _ | ⟨e3, _ | ⟨e4, es⟩⟩⟩⟩ <;> cases h
        | some vs =>
          obtain ⟨k2, p2, rfl⟩ := vTup_ok hv2
          rw [hv, hv2] at h
          rcases es with _ | ⟨e1, _ | ⟨e2, _ | ⟨e3, _ | ⟨e4, es⟩⟩⟩⟩ <;> first | (cases h; done) | skip
          rcases vs with _ | ⟨v1, _ | ⟨v2, _ | ⟨v3, _ | ⟨v4, vs⟩⟩⟩⟩ <;> first | (cases h; done) | skip
          simp only [Bool.and_eq_true, decide_eq_true_eq] at h
          obtain ⟨⟨⟨⟨⟨⟨⟨⟨⟨⟨⟨⟨h1, h2⟩, h2b⟩, h3⟩, h4⟩, h4b⟩, h4c⟩, h5⟩, h6⟩, h6b⟩, h7⟩, h8⟩, h9⟩ := h
          cases hn1 : vName e1 with
          | none => rw [hn1] at h3; cases h3
          | some x =>
            cases hn2 : vName e2 with
            | none => rw [hn1, hn2] at h3; cases h3
            | some y =>
              cases hn3 : vName e3 with
              | none => rw [hn1, hn2, hn3] at h3; cases h3
              | some z =>
                rw [hn1, hn2, hn3] at h3
                obtain ⟨q1, rfl, i1⟩ := vName_tup gs h1 hn1
                obtain ⟨q2, rfl, i2⟩ := vName_tup gs h2 hn2
                obtain ⟨q3, rfl, i3⟩ := vName_tup gs h2b hn3
                simp only [Bool.and_eq_true, parB, decide_eq_true_eq, Bool.not_eq_true'] at h3
                obtain ⟨⟨⟨l1, l2⟩, l2b⟩, l3, l4⟩ := h3
                have hN : X.N.Nodup := by rw [gs.g.hN]; exact gs.g.nd
                have pa := pa_cons (ckE_ok a gs.g h7).1 (pa_cons (ckE_ok b gs.g h8).1 (pa_cons (ckE_ok c gs.g h9).1 pa_nil (star_cons h6b)) (star_cons h6)) (star_cons h5)
                exact s_par3 (ps_par3 gs.g.calm hN i1 i2 i3 h4 h4b h4c (isLoc_ok gs.g.sc l1) (isLoc_ok gs.g.sc l2) (isLoc_ok gs.g.sc l2b) pa (by rw [swL_ok gs.g.sc gs.kind (.inr l4), l3]))
    · cases h
  | .aug o i e, st, gs, h => by
    simp only [ckSt] at h
    split at h
    · simp only [Bool.and_eq_true, decide_eq_true_eq] at h
      obtain ⟨⟨h1, h2⟩, h3⟩ := h
      obtain ⟨x, p, rfl, hi, hl, hf⟩ := nameB_ok gs.g.hN gs.g.sc (fun x _ => gs.fn x) h2
      exact s_aug (ps_aug (by rw [gs.g.hN]; exact gs.g.nd) hi hl (ckE_ok e gs.g h3).1 (ip_aug h1) hf)
    · cases h
  | .auge i e, st, gs, h => by
    simp only [ckSt] at h
    split at h
    · simp only [Bool.and_eq_true, decide_eq_true_eq] at h
      obtain ⟨⟨rfl, h2⟩, h3⟩ := h
      obtain ⟨x, p, rfl, hi, hl, hf⟩ := nameB_ok gs.g.hN gs.g.sc (fun x _ => gs.fn x) h2
      exact s_auge (ps_aug (by rw [gs.g.hN]; exact gs.g.nd) hi hl (ckE_ok e gs.g h3).1 iop_ext hf)
    · cases h
  | .ixset o k v, st, gs, h => by
    simp only [ckSt] at h
    split at h
    · rename_i tg e pos
      cases hv : vSub tg with
      | none => rw [hv] at h; cases h
      | some q =>
        obtain ⟨x, y⟩ := q
        obtain ⟨p, rfl⟩ := vSub_ok hv
        rw [hv] at h
        simp only [Bool.and_eq_true] at h
        exact s_ixset gs.g.hu h.1.1.1 (ckE_ok o gs.g h.1.1.2).1 (ckE_ok k gs.g h.1.2).1 (ckE_ok v gs.g h.2).1
    · cases h
  | .ixaug q o k v, st, gs, h => by
    simp only [ckSt] at h
    split at h
    · rename_i tg op e pos
      cases hv : vSub tg with
      | none => rw [hv] at h; cases h
      | some q =>
        obtain ⟨x, y⟩ := q
        obtain ⟨p, rfl⟩ := vSub_ok hv
        rw [hv] at h
        simp only [Bool.and_eq_true, decide_eq_true_eq] at h
        exact s_ixaug gs.g.hu h.1.1.1.1 h.1.1.1.2 (ckE_ok o gs.g h.1.1.2).1 (ckE_ok k gs.g h.1.2).1 (ckE_ok v gs.g h.2).1
    · cases h
  | .fset c f o v, st, gs, h => by
    simp only [ckSt] at h
    split at h
    · rename_i tg e pos
      cases hv : vAttr tg with
      | none => rw [hv] at h; cases h
      | some q =>
        obtain ⟨x, m⟩ := q
        obtain ⟨p, rfl⟩ := vAttr_ok hv
        rw [hv] at h
        simp only [Bool.and_eq_true, decide_eq_true_eq] at h
        obtain ⟨⟨⟨rfl, h2⟩, h3⟩, h4⟩ := h
        obtain ⟨t, ht, h5⟩ := any_mem h2
        simp only [Bool.and_eq_true, decide_eq_true_eq] at h5
        obtain ⟨rfl, h6⟩ := h5
        obtain ⟨hc, hn⟩ := gs.g.wd.fl t ht
        rw [h6] at hn
        exact s_fset hc hn (ckE_ok o gs.g h3).1 (ckE_ok v gs.g h4).1
    · cases h
  | .ex e, st, gs, h => by
    simp only [ckSt] at h
    split at h
    · simp only [Bool.and_eq_true] at h
      exact s_ex h.1 (ckE_ok e gs.g h.2).1
    · cases h
  | .iff c a b, st, gs, h => by
    simp only [ckSt] at h
    split at h
    · simp only [Bool.and_eq_true] at h
      exact s_if (ckT_ok c gs.g h.1.1).1 (ckB_ok a gs h.1.2) (ckB_ok b gs h.2)
    · cases h
  | .whl c b, st, gs, h => by
    simp only [ckSt] at h
    split at h
    · simp only [Bool.and_eq_true] at h
      exact s_while gs.own (ckT_ok c gs.g h.1).1 (ckB_ok b gs h.2)
    · cases h
  | .for_ tg src b, st, gs, h => by
    simp only [ckSt] at h
    split at h
    · simp only [Bool.and_eq_true] at h
      obtain ⟨⟨⟨h1, h2⟩, h3⟩, h4⟩ := h
      exact s_for gs.own gs.g.calm (ckS_ok src gs.g h3) (tgB_ok gs.g.hN gs.g.nd gs.g.calm gs.g.sc (fun x _ => gs.fn x) h1) (ckB_ok b gs h4) (set_no h2)
    · cases h
  | .ret fz e, st, gs, h => by
    simp only [ckSt] at h
    split at h
    · exact s_ret (ckE_ok e gs.g h).1
    · cases h
  | .retN, st, gs, h => by
    simp only [ckSt] at h
    split at h
    · exact s_retN
    · cases h
  | .pass, st, gs, h => by
    simp only [ckSt] at h
    split at h
    · exact s_pass
    · cases h
  | .bad, st, gs, h => s_bad
theorem ckB_ok : ∀ (b : IB) {sts : List Stmt}, GoodS X cl Φ T N j sc W → ckB T N b sc sts = true → PSs X sts (tS X cl W (exs Φ fuel b))
  | .nil, sts, gs, h => by
    simp only [ckB] at h
    cases sts with
    | nil => exact b_nil
    | cons _ _ => cases h
  | .cons s b, sts, gs, h => by
    simp only [ckB] at h
    cases sts with
    | nil => cases h
    | cons st sts =>
      simp only [Bool.and_eq_true] at h
      exact b_cons (ckSt_ok s gs h.1) (ckB_ok b gs h.2)
end
end
/-- THE DEF: by the check of its body and what its run says -/
theorem fn_ck {P : Program} {w : World} {K : PySem.W.Frag} {mg : Str → Option Value} {base : Heap} {cl : Nat → Addr} {Φ : Nat → List Arg → LR} {T : Tab} {fuel j : Nat} {x qual : Str} {st : Stmt} {f : Addr} {fd : FuncData} {N ps : List Str} {b : IB} {Fn : List Arg → LR}
    (wd : Wd P w K mg base cl Φ T j) (Fd : C8.Fun K x qual st f fd) (hsc : C8.scC N ps (C8.fnScope st) = true) (hb : ckB T N b (C8.fnScope st) (C8.fnBody st) = true)
    (hlen : ∀ as, Fn as ≠ .bad → as.length = ps.length) (hs : ∀ as, as.length = ps.length → Says (runB Φ fuel b N.length (numA 0 as) (boxesA as)) (boxesA as).length (Fn as)) : FnOk P w K mg base (L2.CX P w) (j + 2) f fd ps (spL K cl Fn) := by
  have S := C8.fnScope_by hsc
  refine fn_by Fd S (fun X h1 h2 h3 h4 h5 h6 h7 h8 h9 h10 h11 W tk => ?_) hlen hs
  subst h1 h2 h3 h4 h5
  exact ckB_ok b ⟨⟨wd, h6, S.nd, h7, h8, h10, tk⟩, h9, h11, S.kind⟩ hb
end PD
/-! The law's end. -/
namespace PD
open PySem L2 PySem.Spec PyProof.Rows
/-- law's promise -/
def spLaw (K : PySem.W.Frag) (n : Nat) : Sp := fun vs H Q E => ∃ (a : Addr) (ns : List Int), vs = [.ref a] ∧ SqL K H a (ns.map V.int) ∧ ns.length ≤ n ∧ ∀ H', Q (.bl true) H'
theorem law_imp {K : PySem.W.Frag} {cl : Nat → Addr} {n : Nat} {Fn : List Arg → LR} (hFn : ∀ ns : List Int, ns.length ≤ n → Fn [.p (.fls (ns.map .int))] = .ok (.p (.bl true)) []) (vs : List V) (H : Hp) (Q : VK) (E : XK) (h : spLaw K n vs H Q E) : spL K cl Fn vs H Q E := by
  obtain ⟨a, ns, rfl, hs, hl, k⟩ := h
  have eG : Gz [] [] [] H = H := by
    funext b
    exact gz_of (fun ⟨n, o, e, _⟩ => by simp at e) (by simp)
  have B : Bears K cl [] [] H [] := ⟨rfl, List.nodup_nil, fun n a o e _ => by simp at e, fun n a e => by simp at e, fun n a e => by simp at e, fun a e => by simp at e⟩
  refine ⟨[], [], [.p (.fls (ns.map .int))], B, ?_, rfl, ?_⟩
  · refine ⟨.ref a, [], rfl, ⟨a, _, rfl, ?_, repL_ints ns⟩, rfl⟩
    show SqL K (Gz [] [] [] H) a _
    rw [eG]
    exact hs
  · rw [hFn ns hl]
    intro v μ' H' B' f' r
    have : v = .bl true := r
    rw [this]
    exact k H'
theorem walk_pd {l : PySem.W.OpenLaw} {k : Nat} {q : Program} {loose : List Str} {XP : (Str → Option Value) → Heap → Prop} {YP : World → Heap → Prop} {d : DefRec} {K : Params → PySem.W.Frag} {Fn : List Arg → LR} (hn : l.most = some 63) (hdf : d.params.defaults = []) (hr : Room k callerA)
    (hY : ∀ (w : World) (h : Heap), YP w h → (K w.params).In h)
    (hFn : ∀ ns : List Int, ns.length ≤ 63 → Fn [.p (.fls (ns.map .int))] = .ok (.p (.bl true)) [])
    (F : ∀ (w : World) (mg : Str → Option Value) (fa : Addr) (h : Heap), (K w.params).In h → h.Ns mainGlobals mg → mg d.name = some (.ref fa) →
      ∃ (cl : Nat → Addr) (fd : FuncData), (∀ (s : Shared) (u : Value), BindsTo s fd ⟨[u], []⟩ [("script", u)]) ∧ ∀ base : Heap, (K w.params).In base → base.Ns mainGlobals mg → FnOk l.prog w (K w.params) mg base (L2.CX l.prog w) k fa fd ["script"] (spL (K w.params) cl Fn)) :
    PySem.W.WalkO q loose XP YP l.row.toRowW d [] (fun f vs => PySem.call f vs) :=
  L2.walk_of (n := 63) (k := k) (x := "script") (CX := fun w => L2.CX l.prog w) (sp := fun w => spLaw (K w.params) 63) hn (by decide) hdf hr hY (fun w mg fa h KX G hm => by
    obtain ⟨cl, fd, h1, h2⟩ := F w mg fa h KX G hm
    exact ⟨fd, h1, fun base kb nb => (h2 base kb nb).imp fun vs H Q E z => law_imp hFn vs H Q E z⟩) (fun _ _ a ns hl _ hS => ⟨a, ns, rfl, hS, hl, fun _ => rfl⟩) fun _ _ _ _ _ z => by
    obtain ⟨_, _, _, _, _, _, _, _, _, _, _, _, z⟩ := z
    exact z
end PD
/-! isinstance's answers from the head's facts. -/
namespace PD
open PySem L2
/-- the built-in types that stand for data -/
def seven : List String := ["NoneType", "bool", "int", "str", "tuple", "list", "dict"]
structure KitC (K : PySem.W.Frag) (C : Addr) : Prop where
  ic : PySem.W.isClsIn K C = true
  ty : PySem.W.typeIn K (.ref C) = some (.type "type")
  up : ∀ a ∈ seven, PySem.W.subIn K (.type a) (.ref C) = some false
  dn : ∀ a ∈ seven, PySem.W.subIn K (.ref C) (.type a) = some false
theorem kit_any {K : PySem.W.Frag} {cl : Nat → Addr} {p : P} {v : Value} : ∀ {ts : List Ty}, (∀ t ∈ ts, PySem.W.kitOne K v (tyVal cl t) = some (isTy p t)) → PySem.W.kitAny K v (ts.map (tyVal cl)) = some (ts.any (isTy p))
  | [], _ => rfl
  | t :: ts, h => by
    have h1 := h t List.mem_cons_self
    have h2 := kit_any fun u hu => h u (List.mem_cons_of_mem _ hu)
    refine kitAny_cons h1 (fun e => ?_) (fun e => ?_)
    · rw [List.any_cons, e, Bool.false_or]
      exact h2
    · rw [List.any_cons, e]
      rfl
theorem kitOne_cls {K : PySem.W.Frag} {C : Addr} {v : Value} {b : Bool} (k : KitC K C) (ne : (v == .ref C) = false) (h : PySem.W.subIn K v (.ref C) = some b) : PySem.W.kitOne K v (.ref C) = some b := by
  unfold PySem.W.kitOne
  rw [ne]
  show PySem.W.kitCls K v (.ref C) = some b
  unfold PySem.W.kitCls
  have e : ((PySem.W.clsIn K C).isSome && PySem.W.typeIn K (.ref C) == some (.type "type")) = true := by
    rw [k.ty]
    have := k.ic
    unfold PySem.W.isClsIn at this
    rw [this]
    rfl
  dsimp only
  rw [if_pos e]
  exact h
theorem kit_gen {K : PySem.W.Frag} {cl : Nat → Addr} {n : Nat} (hc : ∀ c, c < n → KitC K (cl c)) (hp : ∀ c c', c < n → c' < n → c ≠ c' → cl c ≠ cl c' ∧ PySem.W.subIn K (.ref (cl c)) (.ref (cl c')) = some false) {ts : List Ty} (ht : ∀ t ∈ ts, match t with
    | .cls c => c < n
    | .none => False
    | _ => True) : KitOk K cl n ts (ts.map (tyVal cl)) := fun p hp' => by
  refine kit_any fun t htt => ?_
  have hk := ht t htt
  unfold kinds at hp'
  rw [List.mem_append] at hp'
  have tyty : ∀ {a b : String} {r : Bool}, kitB a b = some r → PySem.W.kitOne K (.type a) (.type b) = some r := fun h => kit_ty h
  rcases hp' with hp' | hp'
  · cases t with
    | none => exact hk.elim
    | cls c =>
      have k := hc c hk
      simp only [List.mem_cons, List.not_mem_nil, or_false] at hp'
      rcases hp' with rfl | rfl | rfl | rfl | rfl | rfl | rfl <;> exact kitOne_cls k rfl (k.up _ (by simp [seven]))
    | int => simp only [List.mem_cons, List.not_mem_nil, or_false] at hp'; rcases hp' with rfl | rfl | rfl | rfl | rfl | rfl | rfl <;> exact tyty (by decide +kernel)
    | bool => simp only [List.mem_cons, List.not_mem_nil, or_false] at hp'; rcases hp' with rfl | rfl | rfl | rfl | rfl | rfl | rfl <;> exact tyty (by decide +kernel)
    | str => simp only [List.mem_cons, List.not_mem_nil, or_false] at hp'; rcases hp' with rfl | rfl | rfl | rfl | rfl | rfl | rfl <;> exact tyty (by decide +kernel)
    | tup => simp only [List.mem_cons, List.not_mem_nil, or_false] at hp'; rcases hp' with rfl | rfl | rfl | rfl | rfl | rfl | rfl <;> exact tyty (by decide +kernel)
    | lst => simp only [List.mem_cons, List.not_mem_nil, or_false] at hp'; rcases hp' with rfl | rfl | rfl | rfl | rfl | rfl | rfl <;> exact tyty (by decide +kernel)
    | dict => simp only [List.mem_cons, List.not_mem_nil, or_false] at hp'; rcases hp' with rfl | rfl | rfl | rfl | rfl | rfl | rfl <;> exact tyty (by decide +kernel)
  · obtain ⟨c, hcn, rfl⟩ := List.mem_map.mp hp'
    have hcl := List.mem_range.mp hcn
    have k := hc c hcl
    have own : ∀ (a : String), a ∈ seven → PySem.W.kitMeta a = true → PySem.W.kitOne K (.ref (cl c)) (.type a) = some false := fun a ha hm => by
      unfold PySem.W.kitOne
      show PySem.W.kitCls K (.ref (cl c)) (.type a) = some false
      unfold PySem.W.kitCls
      dsimp only
      rw [if_pos hm]
      exact k.dn a ha
    cases t with
    | none => exact hk.elim
    | cls c' =>
      by_cases e : c = c'
      · subst e
        have : isTy (.ins c [] []) (.cls c) = true := by simp [isTy]
        rw [this]
        unfold PySem.W.kitOne
        show (if (Value.ref (cl c) == Value.ref (cl c)) = true then some true else _) = some true
        rw [if_pos (by simp)]
      · obtain ⟨h1, h2⟩ := hp c c' hcl hk e
        have : isTy (.ins c [] []) (.cls c') = false := by simp [isTy, e]
        rw [this]
        exact kitOne_cls (hc c' hk) (by
          show (Value.ref (cl c) == Value.ref (cl c')) = false
          simpa using h1) h2
    | int => exact own _ (by simp [seven]) (by decide +kernel)
    | bool => exact own _ (by simp [seven]) (by decide +kernel)
    | str => exact own _ (by simp [seven]) (by decide +kernel)
    | tup => exact own _ (by simp [seven]) (by decide +kernel)
    | lst => exact own _ (by simp [seven]) (by decide +kernel)
    | dict => exact own _ (by simp [seven]) (by decide +kernel)
end PD
/-! What a def does, by encoded arguments; fractions. -/
namespace PD
open PySem L2
open Classical in
/-- what a def does with encoded arguments; nothing is said of others -/
noncomputable def dec {α : Type} (f : α → List Arg) (dom : α → Prop) (g : α → LR) : List Arg → LR := fun as => if h : ∃ a, dom a ∧ f a = as then g h.choose else .bad
theorem dec_eq {α : Type} {f : α → List Arg} {dom : α → Prop} {g : α → LR} (inj : ∀ a b, f a = f b → a = b) {a : α} (ha : dom a) : dec f dom g (f a) = g a := by
  have h : ∃ b, dom b ∧ f b = f a := ⟨a, ha, rfl⟩
  unfold dec
  rw [dif_pos h, inj _ _ h.choose_spec.2]
theorem dec_says {α : Type} {f : α → List Arg} {dom : α → Prop} {g : α → LR} {r : List Arg → Res D} {k : List Arg → Nat} (h : ∀ a, dom a → Says (r (f a)) (k (f a)) (g a)) (as : List Arg) : Says (r as) (k as) (dec f dom g as) := by
  unfold dec
  split
  · rename_i hh
    have := h _ hh.choose_spec.1
    rwa [hh.choose_spec.2] at this
  · trivial
theorem dec_len {α : Type} {f : α → List Arg} {dom : α → Prop} {g : α → LR} {n : Nat} (h : ∀ a, (f a).length = n) (as : List Arg) (hb : dec f dom g as ≠ .bad) : as.length = n := by
  unfold dec at hb
  split at hb
  · rename_i hh
    rw [← hh.choose_spec.2]
    exact h _
  · exact absurd rfl hb
/-! ### equalities of ints -/
theorem pyEqD_int (a b : Int) : pyEqD (.int a) (.int b) = some (a == b) := rfl
theorem pyEq_int (a b : Int) : pyEq (.int a) (.int b) = some (a == b) := rfl
/-! ### fractions -/
def fr (q : Rat) : P := .tup [.int q.num, .int q.den]
theorem fr_inj {p q : Rat} (h : fr p = fr q) : p = q := by
  simp only [fr, P.tup.injEq, List.cons.injEq, P.int.injEq, and_true, Int.natCast_inj] at h
  exact Rat.ext h.1 h.2
end PD
/-! The program's fractions: what each def does. The bodies as mkpd.py prints them, the called defs' numbers as variables. -/
namespace PD
theorem atI_0 {α : Type} (a : α) (l : List α) : L2.atI (a :: l) 0 = some a := by simp [L2.atI, L2.ixN]
theorem atI_1 {α : Type} (a b : α) (l : List α) : L2.atI (a :: b :: l) 1 = some b := by
  have : (1 : Int) < (l.length : Int) + 1 + 1 := by omega
  simp [L2.atI, L2.ixN, this]
theorem callA_p {f : List Arg → LR} {ps : List P} {r : P} {S : Sto} (h : f (ps.map .p) = .ok (.p r) []) : callA f (ps.map .p) S = .ok (.p r) S := by
  unfold callA
  rw [args_p]
  dsimp only
  rw [boxes_p, if_pos ⟨List.nodup_nil, rfl⟩, h]
  rfl
theorem frz_p (S : Sto) : ∀ (ps : List P), frzL S (ps.map .p) = .ok ps S
  | [] => rfl
  | p :: ps => by
    show (frz S (.p p)).bind _ = _
    show (frzL S (ps.map .p)).bind _ = _
    rw [frz_p S ps]
    rfl
/-- a call with data alone -/
theorem call_p {Φ : Nat → List Arg → LR} {i : Nat} {l : IL} {dfl : List P} {ρ : List (Option D)} {S S' : Sto} {ps : List P} {r : P} (ha : evL Φ l ρ S = .ok (ps.map .p) S') (h : Φ i ((ps ++ dfl).map .p) = .ok (.p r) []) : ev Φ (.call true i dfl l) ρ S = .ok (.p r) S' := by
  simp only [ev, ha, Res.bind, if_true, frz_p]
  rw [← List.map_append]
  exact callA_p h
theorem exs_cons {Φ : Nat → List Arg → LR} {fuel : Nat} {s : IS} {b : IB} {ρ : List (Option D)} {S : Sto} : exs Φ fuel (.cons s b) ρ S = (ex Φ fuel s ρ S).andThen fun ρ S => exs Φ fuel b ρ S := rfl
theorem exs_nil {Φ : Nat → List Arg → LR} {fuel : Nat} {ρ : List (Option D)} {S : Sto} : exs Φ fuel .nil ρ S = .next ρ S := rfl
/-! ### is_integer -/
def B_isint : IB := (.cons (.iff (.or (.not (.tr (.o1 (.isA 1 [.int]) (.var 0)))) (.tr (.o1 (.isA 1 [.bool]) (.var 0))))
      (.cons (.ret true (.cst (.bl false)))
      .nil)
      .nil)
      (.cons (.ret true (.and (.or (.o1 .isN (.var 1)) (.o2 .ge (.var 0) (.var 1))) (.or (.o1 .isN (.var 2)) (.o2 .le (.var 0) (.var 2)))))
      .nil))
noncomputable def F_isint : List Arg → LR := dec (α := Int × Option Int) (fun x => [.p (.int x.1), .p (match x.2 with | some l => .int l | none => .non), .p .non]) (fun _ => True) (fun x => .ok (.p (.bl (match x.2 with | some l => decide (l ≤ x.1) | none => true))) [])
theorem F_isint_eq (i : Int) (l : Option Int) : F_isint [.p (.int i), .p (match l with | some l => .int l | none => .non), .p .non] = .ok (.p (.bl (match l with | some l => decide (l ≤ i) | none => true))) [] :=
  dec_eq (a := (i, l)) (fun a b h => by
    obtain ⟨a1, a2⟩ := a
    obtain ⟨b1, b2⟩ := b
    cases a2 <;> cases b2 <;> simp at h ⊢ <;> exact h) trivial
theorem says_isint (Φ : Nat → List Arg → LR) (fuel : Nat) : ∀ as, Says (runB Φ fuel B_isint 3 (numA 0 as) (boxesA as)) (boxesA as).length (F_isint as) := dec_says fun ⟨i, l⟩ _ => by
  refine ⟨[], ?_, rfl, rfl⟩
  cases l with
  | none => simp [B_isint, runB, exs, ex, ev, evT, evL, Res.bind, Res.out, Out.andThen, optR, view, prim1, prim2, isTy, numA, boxesA, truth, frz]
  | some l =>
    by_cases h : l ≤ i <;> simp [B_isint, runB, exs, ex, ev, evT, evL, Res.bind, Res.out, Out.andThen, optR, view, prim1, prim2, isTy, numA, boxesA, truth, frz, h]
/-! ### divisor_of -/
theorem prim_mod {a b : Int} (h : b ≠ 0) : prim2 .mod (.int a) (.int b) = some (.int (a.fmod b)) := by
  simp only [prim2]
  split
  · rw [Int.fmod_eq_emod_of_nonneg _ (by omega)]
  · simp [h]
theorem fmod_lt {a b : Int} (h : b ≠ 0) : (a.fmod b).natAbs < b.natAbs := by
  by_cases hb : 0 < b
  · have h1 := Int.fmod_nonneg_of_pos a hb
    have h2 := Int.fmod_lt_of_pos a hb
    omega
  · have h1 := Int.fmod_nonneg_of_pos (-a) (b := -b) (by omega)
    have h2 := Int.fmod_lt_of_pos (-a) (b := -b) (by omega)
    rw [Int.neg_fmod_neg] at h1 h2
    omega
theorem gcd_fmod (a b : Int) : Int.gcd b (a.fmod b) = Int.gcd a b := by
  rw [Int.fmod_def, Int.gcd_sub_mul_left_right, Int.gcd_comm]
theorem run_gcd (Φ : Nat → List Arg → LR) (f0 : Nat) (S : Sto) : ∀ (fuel : Nat) (a b : Int), b.natAbs < fuel → ∃ g : Int, g.natAbs = Int.gcd a b ∧
    whileO (evT Φ (.tr (.o2 .ne (.var 1) (.cst (.int 0))))) (exs Φ f0 (.cons (.par 0 1 (.var 1) (.o2 .mod (.var 0) (.var 1))) .nil)) fuel [some (.p (.int a)), some (.p (.int b))] S = .next [some (.p (.int g)), some (.p (.int 0))] S
  | 0, _, _, h => by omega
  | n + 1, a, b, h => by
    by_cases hb : b = 0
    · subst hb
      refine ⟨a, by simp, ?_⟩
      simp [whileO, evT, ev, Res.bind, Res.out, optR, view, prim2, pyEqD_int, truth]
    · have hlt := fmod_lt (a := a) hb
      obtain ⟨g, h1, h2⟩ := run_gcd Φ f0 S n b (a.fmod b) (by omega)
      refine ⟨g, by rw [h1, gcd_fmod], ?_⟩
      rw [← h2]
      have e1 : prim2 .ne (.int b) (.int 0) = some (.bl true) := by simp [prim2, pyEqD_int, hb]
      simp [whileO, evT, ev, Res.bind, Res.out, optR, view, e1, truth, exs, ex, Out.andThen, prim_mod hb]
def B_gcd : IB := (.cons (.whl (.tr (.o2 .ne (.var 1) (.cst (.int 0))))
      (.cons (.par 0 1 (.var 1) (.o2 .mod (.var 0) (.var 1)))
      .nil))
      (.cons (.ret true (.o1 .abs (.var 0)))
      .nil))
noncomputable def F_gcd : List Arg → LR := dec (α := Int × Int) (fun x => [.p (.int x.1), .p (.int x.2)]) (fun x => x.2.natAbs < 2 ^ 10000) (fun x => .ok (.p (.int (Int.gcd x.1 x.2))) [])
theorem F_gcd_eq {a b : Int} (h : b.natAbs < 2 ^ 10000) : F_gcd [.p (.int a), .p (.int b)] = .ok (.p (.int (Int.gcd a b))) [] := dec_eq (a := (a, b)) (fun a b h => by simpa [Prod.ext_iff] using h) h
theorem says_gcd (Φ : Nat → List Arg → LR) : ∀ as, Says (runB Φ (2 ^ 10000) B_gcd 2 (numA 0 as) (boxesA as)) (boxesA as).length (F_gcd as) := dec_says fun ⟨a, b⟩ h => by
  obtain ⟨g, h1, h2⟩ := run_gcd Φ (2 ^ 10000) [] (2 ^ 10000) a b h
  refine ⟨[], ?_, rfl, rfl⟩
  have e : (if g < 0 then -g else g) = ((Int.gcd a b : Nat) : Int) := by
    rw [← h1]
    split <;> omega
  have h3 : ex Φ (2 ^ 10000) (.whl (.tr (.o2 .ne (.var 1) (.cst (.int 0)))) (.cons (.par 0 1 (.var 1) (.o2 .mod (.var 0) (.var 1))) .nil)) [some (.p (.int a)), some (.p (.int b))] [] = .next [some (.p (.int g)), some (.p (.int 0))] [] := h2
  show (match exs Φ (2 ^ 10000) B_gcd [some (.p (.int a)), some (.p (.int b))] [] with
    | .next _ S => Res.ok (D.p .non) S
    | .ret d S => .ok d S
    | .rse _ c ns vs S => .rse c ns vs S
    | .bad => .bad) = _
  rw [B_gcd, exs_cons, h3]
  simp [exs_cons, Out.andThen, ex, ev, Res.bind, Res.out, optR, view, prim1, frz, e]
/-! ### simplified -/
def B_simpl (i : Nat) : IB := (.cons (.set (.nm 2) (.call true i [] (.cons (.var 0) (.cons (.var 1) .nil))))
      (.cons (.set (.nm 3) (.ifx (.tr (.o2 .gt (.var 1) (.cst (.int 0)))) (.cst (.int 1)) (.o1 .neg (.cst (.int 1)))))
      (.cons (.ret true (.tup (.cons (.o2 .fdiv (.o2 .mul (.var 3) (.var 0)) (.var 2)) (.cons (.o2 .fdiv (.o2 .mul (.var 3) (.var 1)) (.var 2)) .nil))))
      .nil)))
theorem log_of {n k : Nat} (h : n < 2 ^ k) (hk : 0 < k) : n.log2 < k := PySem.Flt.log2_lt_of hk h
theorem gcd_le {a b : Int} (h : b ≠ 0) : Int.gcd a b ≤ b.natAbs := Nat.le_of_dvd (by omega) (Int.gcd_dvd_natAbs_right a b)
theorem gcd_pos {a b : Int} (h : b ≠ 0) : 0 < Int.gcd a b := Nat.pos_of_ne_zero fun e => h (Int.gcd_eq_zero_iff.mp e).2
noncomputable def F_simpl : List Arg → LR := dec (α := Int × Int) (fun x => [.p (.int x.1), .p (.int x.2)]) (fun x => x.2 ≠ 0 ∧ x.1.natAbs < 2 ^ 8500 ∧ x.2.natAbs < 2 ^ 8500) (fun x => .ok (.p (fr (Rat.divInt x.1 x.2))) [])
theorem F_simpl_eq {a b : Int} (h0 : b ≠ 0) (h1 : a.natAbs < 2 ^ 8500) (h2 : b.natAbs < 2 ^ 8500) : F_simpl [.p (.int a), .p (.int b)] = .ok (.p (fr (Rat.divInt a b))) [] := dec_eq (a := (a, b)) (fun a b h => by simpa [Prod.ext_iff] using h) ⟨h0, h1, h2⟩
theorem pow_mono {a b n : Nat} (h : n < 2 ^ a) (hab : a ≤ b) : n < 2 ^ b := Nat.lt_of_lt_of_le h (Nat.pow_le_pow_right (by omega) hab)
theorem says_simpl (Φ : Nat → List Arg → LR) (fuel i : Nat) (hg : Φ i = F_gcd) : ∀ as, Says (runB Φ fuel (B_simpl i) 4 (numA 0 as) (boxesA as)) (boxesA as).length (F_simpl as) := dec_says fun ⟨a, b⟩ ⟨h0, h1, h2⟩ => by
  dsimp only at h0 h1 h2
  refine ⟨[], ?_, rfl, rfl⟩
  have e1 : Φ i [.p (.int a), .p (.int b)] = .ok (.p (.int (Int.gcd a b))) [] := by rw [hg, F_gcd_eq (pow_mono h2 (by omega))]
  have gp := gcd_pos (a := a) h0
  have gl := gcd_le (a := a) h0
  have glog : (Int.gcd a b).log2 < 9000 := Nat.lt_of_lt_of_le (log_of (Nat.lt_of_le_of_lt gl h2) (by omega)) (by omega)
  have l1 : a.natAbs.log2 < 8500 := log_of h1 (by omega)
  have l2 : b.natAbs.log2 < 8500 := log_of h2 (by omega)
  have el : Φ i ((([.int a, .int b] : List P) ++ ([] : List P)).map Arg.p) = .ok (.p (.int (Int.gcd a b))) [] := e1
  have c1 : ∀ S, ev Φ (.call true i [] (.cons (.var 0) (.cons (.var 1) .nil))) [some (.p (.int a)), some (.p (.int b)), none, none] S = .ok (.p (.int (Int.gcd a b))) S := fun S => call_p (ps := [.int a, .int b]) (by simp [evL, ev, Res.bind]) el
  have nm : (Rat.divInt a b).num = b.sign * a / (Int.gcd a b : Nat) := by rw [Rat.num_divInt, Int.gcd_comm]
  have dn : ((Rat.divInt a b).den : Int) = b.sign * b / (Int.gcd a b : Nat) := by
    rw [Rat.den_divInt, if_neg h0, Int.gcd_comm, Int.sign_mul_self]
    rfl
  have l0 : ∀ s : Int, (s = 1 ∨ s = -1) → ∀ x : Int, x.natAbs.log2 < 8500 → prim2 .mul (.int s) (.int x) = some (.int (s * x)) := fun s hs x hx => by
    simp only [prim2]
    rw [if_pos]
    rcases hs with rfl | rfl
    · have : (1 : Int).natAbs.log2 = 0 := by decide
      omega
    · have : (-1 : Int).natAbs.log2 = 0 := by decide
      omega
  have fd : ∀ x : Int, prim2 .fdiv (.int x) (.int (Int.gcd a b)) = some (.int (x / (Int.gcd a b : Nat))) := fun x => by
    simp only [prim2]
    rw [if_pos ⟨by omega, by rw [Int.natAbs_natCast]; exact glog⟩]
  have key : ∀ s : Int, s = b.sign → ∀ S, ev Φ (.tup (.cons (.o2 .fdiv (.o2 .mul (.var 3) (.var 0)) (.var 2)) (.cons (.o2 .fdiv (.o2 .mul (.var 3) (.var 1)) (.var 2)) .nil))) [some (.p (.int a)), some (.p (.int b)), some (.p (.int (Int.gcd a b))), some (.p (.int s))] S = .ok (.p (fr (Rat.divInt a b))) S := fun s hs S => by
    have s1 : s = 1 ∨ s = -1 := by
      rcases Int.lt_or_gt_of_ne h0 with h | h
      · exact .inr (hs.trans (Int.sign_eq_neg_one_of_neg h))
      · exact .inl (hs.trans (Int.sign_eq_one_of_pos h))
    have m1 := l0 s s1 a l1
    have m2 := l0 s s1 b l2
    have f1 := fd (s * a)
    have f2 := fd (s * b)
    simp [ev, evL, Res.bind, optR, view, m1, m2, f1, f2, frzL, frz, PySem.sizeLine_eq]
    rw [fr, nm, dn, hs]
  show (match exs Φ fuel (B_simpl i) [some (.p (.int a)), some (.p (.int b)), none, none] [] with
    | .next _ S => Res.ok (D.p .non) S
    | .ret d S => .ok d S
    | .rse _ c ns vs S => .rse c ns vs S
    | .bad => .bad) = _
  rw [B_simpl, exs_cons]
  have s1 : ∀ S, ex Φ fuel (.set (.nm 2) (.call true i [] (.cons (.var 0) (.cons (.var 1) .nil)))) [some (.p (.int a)), some (.p (.int b)), none, none] S = .next [some (.p (.int a)), some (.p (.int b)), some (.p (.int (Int.gcd a b))), none] S := fun S => by
    simp [ex, c1, Res.out]
  rw [s1]
  dsimp only [Out.andThen]
  rw [exs_cons]
  by_cases hb : 0 < b
  · have s2 : ∀ S, ex Φ fuel (.set (.nm 3) (.ifx (.tr (.o2 .gt (.var 1) (.cst (.int 0)))) (.cst (.int 1)) (.o1 .neg (.cst (.int 1))))) [some (.p (.int a)), some (.p (.int b)), some (.p (.int (Int.gcd a b))), none] S = .next [some (.p (.int a)), some (.p (.int b)), some (.p (.int (Int.gcd a b))), some (.p (.int 1))] S := fun S => by
      simp [ex, ev, evT, Res.out, Res.bind, optR, view, prim2, truth, hb]
    rw [s2]
    dsimp only [Out.andThen]
    simp [exs_cons, ex, key 1 (Int.sign_eq_one_of_pos hb).symm, Res.out, frz, Out.andThen]
  · have s2 : ∀ S, ex Φ fuel (.set (.nm 3) (.ifx (.tr (.o2 .gt (.var 1) (.cst (.int 0)))) (.cst (.int 1)) (.o1 .neg (.cst (.int 1))))) [some (.p (.int a)), some (.p (.int b)), some (.p (.int (Int.gcd a b))), none] S = .next [some (.p (.int a)), some (.p (.int b)), some (.p (.int (Int.gcd a b))), some (.p (.int (-1)))] S := fun S => by
      simp [ex, ev, evT, Res.out, Res.bind, optR, view, prim1, prim2, truth, hb]
    rw [s2]
    dsimp only [Out.andThen]
    simp [exs_cons, ex, key (-1) (Int.sign_eq_neg_one_of_neg (by omega)).symm, Res.out, frz, Out.andThen]
end PD
/-! The program's fractions, 2: from is_fraction to check_tick. -/
namespace PD
/-- numbers that every step can bear -/
def sm (q : Rat) : Prop := q.num.natAbs < 2 ^ 4000 ∧ q.den < 2 ^ 4000
theorem callA_1 {f : List Arg → LR} {a r : P} {S : Sto} (h : f [.p a] = .ok (.p r) []) : callA f [D.p a] S = .ok (.p r) S := callA_p (ps := [a]) h
theorem callA_2 {f : List Arg → LR} {a b r : P} {S : Sto} (h : f [.p a, .p b] = .ok (.p r) []) : callA f [D.p a, D.p b] S = .ok (.p r) S := callA_p (ps := [a, b]) h
theorem callA_3 {f : List Arg → LR} {a b c r : P} {S : Sto} (h : f [.p a, .p b, .p c] = .ok (.p r) []) : callA f [D.p a, D.p b, D.p c] S = .ok (.p r) S := callA_p (ps := [a, b, c]) h
theorem isint_1 (i : Int) (S : Sto) : callA F_isint [D.p (.int i), D.p .non, D.p .non] S = .ok (.p (.bl true)) S := callA_3 (F_isint_eq i none)
theorem isint_2 (i l : Int) (S : Sto) : callA F_isint [D.p (.int i), D.p (.int l), D.p .non] S = .ok (.p (.bl (decide (l ≤ i)))) S := callA_3 (F_isint_eq i (some l))
theorem gcd_2 {a b : Int} (h : b.natAbs < 2 ^ 10000) (S : Sto) : callA F_gcd [D.p (.int a), D.p (.int b)] S = .ok (.p (.int (Int.gcd a b))) S := callA_2 (F_gcd_eq h)
theorem simpl_2 {a b : Int} (h0 : b ≠ 0) (h1 : a.natAbs < 2 ^ 8500) (h2 : b.natAbs < 2 ^ 8500) (S : Sto) : callA F_simpl [D.p (.int a), D.p (.int b)] S = .ok (.p (fr (Rat.divInt a b))) S := callA_2 (F_simpl_eq h0 h1 h2)
/-! ### is_fraction -/
def B_isfr (n i j : Nat) : IB := (.cons (.iff (.or (.not (.tr (.o1 (.isA n [.tup]) (.var 0)))) (.or (.tr (.o2 .ne (.o1 .len (.var 0)) (.cst (.int 2)))) (.or (.not (.tr (.call true i [.non, .non] (.cons (.o2 .ix (.var 0) (.cst (.int 0))) .nil)))) (.not (.tr (.call true i [.non] (.cons (.o2 .ix (.var 0) (.cst (.int 1))) (.cons (.cst (.int 1)) .nil))))))))
      (.cons (.ret true (.cst (.bl false)))
      .nil)
      .nil)
      (.cons (.ret true (.o2 .eq (.call true j [] (.cons (.o2 .ix (.var 0) (.cst (.int 0))) (.cons (.o2 .ix (.var 0) (.cst (.int 1))) .nil))) (.cst (.int 1))))
      .nil))
noncomputable def F_isfr : List Arg → LR := dec (α := Rat) (fun q => [.p (fr q)]) sm (fun _ => .ok (.p (.bl true)) [])
theorem F_isfr_eq {q : Rat} (h : sm q) : F_isfr [.p (fr q)] = .ok (.p (.bl true)) [] := dec_eq (a := q) (fun a b h => by simpa using fr_inj (by simpa using h)) h
theorem ix0 (a b : P) : prim2 .ix (.tup [a, b]) (.int 0) = some a := atI_0 a [b]
theorem ix1 (a b : P) : prim2 .ix (.tup [a, b]) (.int 1) = some b := atI_1 a b []
theorem eq_int (a b : Int) : prim2 .eq (.int a) (.int b) = some (.bl (a == b)) := rfl
theorem ne_int (a b : Int) : prim2 .ne (.int a) (.int b) = some (.bl (!(a == b))) := rfl
theorem len2 (a b : P) : prim1 .len (.tup [a, b]) = some (.int 2) := rfl
theorem den_pos' (q : Rat) : (1 : Int) ≤ q.den := by have := q.den_pos; omega
theorem says_isfr (Φ : Nat → List Arg → LR) (fuel n i j : Nat) (hi : Φ i = F_isint) (hj : Φ j = F_gcd) : ∀ as, Says (runB Φ fuel (B_isfr n i j) 1 (numA 0 as) (boxesA as)) (boxesA as).length (F_isfr as) := dec_says fun q h => by
  refine ⟨[], ?_, rfl, rfl⟩
  have hd := den_pos' q
  have hg : Int.gcd q.num q.den = 1 := by
    show q.num.natAbs.gcd (q.den : Int).natAbs = 1
    rw [Int.natAbs_natCast]
    exact q.reduced
  have g2 : ∀ S, callA F_gcd [D.p (.int q.num), D.p (.int q.den)] S = .ok (.p (.int ((1 : Nat) : Int))) S := fun S => by
    rw [gcd_2 (by rw [Int.natAbs_natCast]; exact pow_mono h.2 (by omega)), hg]
  have il : prim1 (.isA n [.tup]) (fr q) = some (.bl true) := rfl
  simp [B_isfr, runB, exs, ex, ev, evT, evL, Res.bind, Res.out, Out.andThen, optR, view, numA, boxesA, truth, frz, frzL, hi, hj, il, len2, ne_int, eq_int, isint_1, isint_2, hd, g2, fr, ix0, ix1, prim1, isTy]
/-! ### check_fractions -/
def B_chk (i : Nat) : IB := (.cons (.iff (.or (.not (.tr (.call true i [] (.cons (.var 0) .nil)))) (.not (.tr (.call true i [] (.cons (.var 1) .nil)))))
      (.cons .bad
      .nil)
      .nil)
      .nil)
noncomputable def F_two (g : Rat → Rat → LR) (dom : Rat → Rat → Prop) : List Arg → LR := dec (α := Rat × Rat) (fun x => [.p (fr x.1), .p (fr x.2)]) (fun x => dom x.1 x.2) (fun x => g x.1 x.2)
theorem F_two_eq {g : Rat → Rat → LR} {dom : Rat → Rat → Prop} {p q : Rat} (h : dom p q) : F_two g dom [.p (fr p), .p (fr q)] = g p q := dec_eq (a := (p, q)) (fun a b h => by
    simp only [List.cons.injEq, Arg.p.injEq, and_true] at h
    exact Prod.ext (fr_inj h.1) (fr_inj h.2)) h
theorem two_says {g : Rat → Rat → LR} {dom : Rat → Rat → Prop} {r : List Arg → Res D} {k : List Arg → Nat} (h : ∀ p q, dom p q → Says (r [.p (fr p), .p (fr q)]) (k [.p (fr p), .p (fr q)]) (g p q)) (as : List Arg) : Says (r as) (k as) (F_two g dom as) := dec_says (fun x hx => h x.1 x.2 hx) as
def sm2 (p q : Rat) : Prop := sm p ∧ sm q
noncomputable def F_chk : List Arg → LR := F_two (fun _ _ => .ok (.p .non) []) sm2
theorem isfr_1 {q : Rat} (h : sm q) (S : Sto) : callA F_isfr [D.p (fr q)] S = .ok (.p (.bl true)) S := callA_1 (F_isfr_eq h)
theorem says_chk (Φ : Nat → List Arg → LR) (fuel i : Nat) (hi : Φ i = F_isfr) : ∀ as, Says (runB Φ fuel (B_chk i) 2 (numA 0 as) (boxesA as)) (boxesA as).length (F_chk as) := two_says fun p q h => by
  refine ⟨[], ?_, rfl, rfl⟩
  have h1 := h.1
  have h2 := h.2
  simp [B_chk, runB, exs, ex, ev, evT, evL, Res.bind, Res.out, Out.andThen, optR, view, numA, boxesA, truth, frz, frzL, hi, isfr_1 h1, isfr_1 h2]
theorem chk_2 {p q : Rat} (h : sm p) (h' : sm q) (S : Sto) : callA F_chk [D.p (fr p), D.p (fr q)] S = .ok (.p .non) S := callA_2 (F_two_eq ⟨h, h'⟩)
/-! ### plus, minus, times, over, is_less -/
def B_plus (i j : Nat) : IB := (.cons (.ex (.call true i [] (.cons (.var 0) (.cons (.var 1) .nil))))
      (.cons (.ret true (.call true j [] (.cons (.o2 .add (.o2 .mul (.o2 .ix (.var 0) (.cst (.int 0))) (.o2 .ix (.var 1) (.cst (.int 1)))) (.o2 .mul (.o2 .ix (.var 1) (.cst (.int 0))) (.o2 .ix (.var 0) (.cst (.int 1))))) (.cons (.o2 .mul (.o2 .ix (.var 0) (.cst (.int 1))) (.o2 .ix (.var 1) (.cst (.int 1)))) .nil))))
      .nil))
def B_minus (i j : Nat) : IB := (.cons (.ex (.call true i [] (.cons (.var 0) (.cons (.var 1) .nil))))
      (.cons (.ret true (.call true j [] (.cons (.o2 .sub (.o2 .mul (.o2 .ix (.var 0) (.cst (.int 0))) (.o2 .ix (.var 1) (.cst (.int 1)))) (.o2 .mul (.o2 .ix (.var 1) (.cst (.int 0))) (.o2 .ix (.var 0) (.cst (.int 1))))) (.cons (.o2 .mul (.o2 .ix (.var 0) (.cst (.int 1))) (.o2 .ix (.var 1) (.cst (.int 1)))) .nil))))
      .nil))
def B_times (i j : Nat) : IB := (.cons (.ex (.call true i [] (.cons (.var 0) (.cons (.var 1) .nil))))
      (.cons (.ret true (.call true j [] (.cons (.o2 .mul (.o2 .ix (.var 0) (.cst (.int 0))) (.o2 .ix (.var 1) (.cst (.int 0)))) (.cons (.o2 .mul (.o2 .ix (.var 0) (.cst (.int 1))) (.o2 .ix (.var 1) (.cst (.int 1)))) .nil))))
      .nil))
def B_over (i j : Nat) : IB := (.cons (.ex (.call true i [] (.cons (.var 0) (.cons (.var 1) .nil))))
      (.cons (.iff (.tr (.o2 .eq (.o2 .ix (.var 1) (.cst (.int 0))) (.cst (.int 0))))
      (.cons .bad
      .nil)
      .nil)
      (.cons (.ret true (.call true j [] (.cons (.o2 .mul (.o2 .ix (.var 0) (.cst (.int 0))) (.o2 .ix (.var 1) (.cst (.int 1)))) (.cons (.o2 .mul (.o2 .ix (.var 0) (.cst (.int 1))) (.o2 .ix (.var 1) (.cst (.int 0)))) .nil))))
      .nil)))
def B_less (i : Nat) : IB := (.cons (.ex (.call true i [] (.cons (.var 0) (.cons (.var 1) .nil))))
      (.cons (.ret true (.o2 .lt (.o2 .mul (.o2 .ix (.var 0) (.cst (.int 0))) (.o2 .ix (.var 1) (.cst (.int 1)))) (.o2 .mul (.o2 .ix (.var 1) (.cst (.int 0))) (.o2 .ix (.var 0) (.cst (.int 1))))))
      .nil))
theorem mul_big {a b : Int} (ha : a.natAbs < 2 ^ 4000) (hb : b.natAbs < 2 ^ 4000) : prim2 .mul (.int a) (.int b) = some (.int (a * b)) ∧ (a * b).natAbs < 2 ^ 8000 := by
  have h1 : a.natAbs.log2 < 4000 := log_of ha (by omega)
  have h2 : b.natAbs.log2 < 4000 := log_of hb (by omega)
  refine ⟨?_, ?_⟩
  · simp only [prim2]
    rw [if_pos (by omega)]
  · rw [Int.natAbs_mul, show (8000 : Nat) = 4000 + 4000 from rfl, Nat.pow_add]
    exact Nat.mul_lt_mul'' ha hb
theorem add_int (a b : Int) : prim2 .add (.int a) (.int b) = some (.int (a + b)) := rfl
theorem sub_int (a b : Int) : prim2 .sub (.int a) (.int b) = some (.int (a - b)) := rfl
theorem sum_big {a b : Int} (ha : a.natAbs < 2 ^ 8000) (hb : b.natAbs < 2 ^ 8000) : (a + b).natAbs < 2 ^ 8500 ∧ (a - b).natAbs < 2 ^ 8500 := by
  have h : (2 : Nat) ^ 8500 = 2 ^ 499 * 2 ^ 8000 * 2 := by rw [← Nat.pow_add, ← Nat.pow_succ]
  have h2 : 1 ≤ (2 : Nat) ^ 499 := Nat.one_le_two_pow
  have h3 : (2 : Nat) ^ 8000 ≤ 2 ^ 499 * 2 ^ 8000 := Nat.le_mul_of_pos_left _ (by omega)
  generalize (2 : Nat) ^ 8500 = z at h ⊢
  generalize (2 : Nat) ^ 499 * 2 ^ 8000 = y at h h3
  generalize (2 : Nat) ^ 8000 = x at *
  omega
noncomputable def F_plus : List Arg → LR := F_two (fun p q => .ok (.p (fr (p + q))) []) sm2
noncomputable def F_minus : List Arg → LR := F_two (fun p q => .ok (.p (fr (p - q))) []) sm2
noncomputable def F_times : List Arg → LR := F_two (fun p q => .ok (.p (fr (p * q))) []) sm2
noncomputable def F_over : List Arg → LR := F_two (fun p q => .ok (.p (fr (p / q))) []) (fun p q => sm p ∧ sm q ∧ q ≠ 0)
noncomputable def F_less : List Arg → LR := F_two (fun p q => .ok (.p (.bl (decide (p < q)))) []) sm2
theorem plus_2 {p q : Rat} (h : sm p) (h' : sm q) (S : Sto) : callA F_plus [D.p (fr p), D.p (fr q)] S = .ok (.p (fr (p + q))) S := callA_2 (F_two_eq (dom := sm2) ⟨h, h'⟩)
theorem times_2 {p q : Rat} (h : sm p) (h' : sm q) (S : Sto) : callA F_times [D.p (fr p), D.p (fr q)] S = .ok (.p (fr (p * q))) S := callA_2 (F_two_eq (dom := sm2) ⟨h, h'⟩)
theorem den_ne (p q : Rat) : ((p.den : Int) * q.den) ≠ 0 := by
  have h1 := p.den_pos
  have h2 := q.den_pos
  have := Int.mul_pos (a := (p.den : Int)) (b := q.den) (by omega) (by omega)
  omega
theorem add_rat (p q : Rat) : Rat.divInt (p.num * q.den + q.num * p.den) (p.den * q.den) = p + q := by
  rw [Rat.add_def', show ((p.den : Int) * (q.den : Int)) = ((p.den * q.den : Nat) : Int) by simp, Rat.divInt_ofNat]
theorem sub_rat (p q : Rat) : Rat.divInt (p.num * q.den - q.num * p.den) (p.den * q.den) = p - q := by
  rw [Rat.sub_def', show ((p.den : Int) * (q.den : Int)) = ((p.den * q.den : Nat) : Int) by simp, Rat.divInt_ofNat]
theorem mul_rat (p q : Rat) : Rat.divInt (p.num * q.num) (p.den * q.den) = p * q := by
  rw [Rat.mul_def', show ((p.den : Int) * (q.den : Int)) = ((p.den * q.den : Nat) : Int) by simp, Rat.divInt_ofNat]
theorem div_rat (p q : Rat) : Rat.divInt (p.num * q.den) (p.den * q.num) = p / q := by
  rw [Rat.div_def, Rat.inv_def, ← Rat.divInt_mul_divInt, Rat.num_divInt_den]
theorem says_plus (Φ : Nat → List Arg → LR) (fuel i j : Nat) (hi : Φ i = F_chk) (hj : Φ j = F_simpl) : ∀ as, Says (runB Φ fuel (B_plus i j) 2 (numA 0 as) (boxesA as)) (boxesA as).length (F_plus as) := two_says fun p q h => by
  refine ⟨[], ?_, rfl, rfl⟩
  have h1 : sm p := h.1
  have h2 : sm q := h.2
  obtain ⟨m1, b1⟩ := mul_big h1.1 (b := q.den) (by rw [Int.natAbs_natCast]; exact h2.2)
  obtain ⟨m2, b2⟩ := mul_big h2.1 (b := p.den) (by rw [Int.natAbs_natCast]; exact h1.2)
  obtain ⟨m3, b3⟩ := mul_big (a := p.den) (b := q.den) (by rw [Int.natAbs_natCast]; exact h1.2) (by rw [Int.natAbs_natCast]; exact h2.2)
  have s2 := fun S => simpl_2 (den_ne p q) (sum_big b1 b2).1 (pow_mono b3 (by omega)) S
  rw [add_rat] at s2
  have ck := chk_2 h1 h2
  have x0 : ∀ q, prim2 .ix (fr q) (.int 0) = some (.int q.num) := fun q => ix0 _ _
  have x1 : ∀ q, prim2 .ix (fr q) (.int 1) = some (.int q.den) := fun q => ix1 _ _
  simp [B_plus, runB, exs, ex, ev, evT, evL, Res.bind, Res.out, Out.andThen, optR, view, numA, boxesA, truth, frz, frzL, hi, hj, ck, x0, x1, m1, m2, m3, add_int, s2]
theorem says_minus (Φ : Nat → List Arg → LR) (fuel i j : Nat) (hi : Φ i = F_chk) (hj : Φ j = F_simpl) : ∀ as, Says (runB Φ fuel (B_minus i j) 2 (numA 0 as) (boxesA as)) (boxesA as).length (F_minus as) := two_says fun p q h => by
  refine ⟨[], ?_, rfl, rfl⟩
  have h1 : sm p := h.1
  have h2 : sm q := h.2
  obtain ⟨m1, b1⟩ := mul_big h1.1 (b := q.den) (by rw [Int.natAbs_natCast]; exact h2.2)
  obtain ⟨m2, b2⟩ := mul_big h2.1 (b := p.den) (by rw [Int.natAbs_natCast]; exact h1.2)
  obtain ⟨m3, b3⟩ := mul_big (a := p.den) (b := q.den) (by rw [Int.natAbs_natCast]; exact h1.2) (by rw [Int.natAbs_natCast]; exact h2.2)
  have s2 := fun S => simpl_2 (den_ne p q) (sum_big b1 b2).2 (pow_mono b3 (by omega)) S
  rw [sub_rat] at s2
  have ck := chk_2 h1 h2
  have x0 : ∀ q, prim2 .ix (fr q) (.int 0) = some (.int q.num) := fun q => ix0 _ _
  have x1 : ∀ q, prim2 .ix (fr q) (.int 1) = some (.int q.den) := fun q => ix1 _ _
  simp [B_minus, runB, exs, ex, ev, evT, evL, Res.bind, Res.out, Out.andThen, optR, view, numA, boxesA, truth, frz, frzL, hi, hj, ck, x0, x1, m1, m2, m3, sub_int, s2]
theorem says_times (Φ : Nat → List Arg → LR) (fuel i j : Nat) (hi : Φ i = F_chk) (hj : Φ j = F_simpl) : ∀ as, Says (runB Φ fuel (B_times i j) 2 (numA 0 as) (boxesA as)) (boxesA as).length (F_times as) := two_says fun p q h => by
  refine ⟨[], ?_, rfl, rfl⟩
  have h1 : sm p := h.1
  have h2 : sm q := h.2
  obtain ⟨m1, b1⟩ := mul_big h1.1 h2.1
  obtain ⟨m3, b3⟩ := mul_big (a := p.den) (b := q.den) (by rw [Int.natAbs_natCast]; exact h1.2) (by rw [Int.natAbs_natCast]; exact h2.2)
  have s2 := fun S => simpl_2 (den_ne p q) (pow_mono b1 (by omega)) (pow_mono b3 (by omega)) S
  rw [mul_rat] at s2
  have ck := chk_2 h1 h2
  have x0 : ∀ q, prim2 .ix (fr q) (.int 0) = some (.int q.num) := fun q => ix0 _ _
  have x1 : ∀ q, prim2 .ix (fr q) (.int 1) = some (.int q.den) := fun q => ix1 _ _
  simp [B_times, runB, exs, ex, ev, evT, evL, Res.bind, Res.out, Out.andThen, optR, view, numA, boxesA, truth, frz, frzL, hi, hj, ck, x0, x1, m1, m3, s2]
theorem says_over (Φ : Nat → List Arg → LR) (fuel i j : Nat) (hi : Φ i = F_chk) (hj : Φ j = F_simpl) : ∀ as, Says (runB Φ fuel (B_over i j) 2 (numA 0 as) (boxesA as)) (boxesA as).length (F_over as) := two_says fun p q h => by
  refine ⟨[], ?_, rfl, rfl⟩
  have h1 : sm p := h.1
  have h2 : sm q := h.2.1
  have h0 : q.num ≠ 0 := fun e => h.2.2 (Rat.num_eq_zero.mp e)
  obtain ⟨m1, b1⟩ := mul_big h1.1 (b := q.den) (by rw [Int.natAbs_natCast]; exact h2.2)
  obtain ⟨m3, b3⟩ := mul_big (a := p.den) (by rw [Int.natAbs_natCast]; exact h1.2) h2.1
  have nz : (p.den : Int) * q.num ≠ 0 := Int.mul_ne_zero (by have := p.den_pos; omega) h0
  have s2 := fun S => simpl_2 nz (pow_mono b1 (by omega)) (pow_mono b3 (by omega)) S
  rw [div_rat] at s2
  have ck := chk_2 h1 h2
  have x0 : ∀ q, prim2 .ix (fr q) (.int 0) = some (.int q.num) := fun q => ix0 _ _
  have x1 : ∀ q, prim2 .ix (fr q) (.int 1) = some (.int q.den) := fun q => ix1 _ _
  simp [B_over, runB, exs, ex, ev, evT, evL, Res.bind, Res.out, Out.andThen, optR, view, numA, boxesA, truth, frz, frzL, hi, hj, ck, x0, x1, m1, m3, s2, eq_int, h0]
theorem says_less (Φ : Nat → List Arg → LR) (fuel i : Nat) (hi : Φ i = F_chk) : ∀ as, Says (runB Φ fuel (B_less i) 2 (numA 0 as) (boxesA as)) (boxesA as).length (F_less as) := two_says fun p q h => by
  refine ⟨[], ?_, rfl, rfl⟩
  have h1 : sm p := h.1
  have h2 : sm q := h.2
  obtain ⟨m1, b1⟩ := mul_big h1.1 (b := q.den) (by rw [Int.natAbs_natCast]; exact h2.2)
  obtain ⟨m2, b2⟩ := mul_big h2.1 (b := p.den) (by rw [Int.natAbs_natCast]; exact h1.2)
  have ck := chk_2 h1 h2
  have x0 : ∀ q, prim2 .ix (fr q) (.int 0) = some (.int q.num) := fun q => ix0 _ _
  have x1 : ∀ q, prim2 .ix (fr q) (.int 1) = some (.int q.den) := fun q => ix1 _ _
  have lt : ∀ a b : Int, prim2 .lt (.int a) (.int b) = some (.bl (decide (a < b))) := fun _ _ => rfl
  simp [B_less, runB, exs, ex, ev, evT, evL, Res.bind, Res.out, Out.andThen, optR, view, numA, boxesA, truth, frz, frzL, hi, ck, x0, x1, m1, m2, lt, Rat.lt_iff]
end PD
/-! Rows: the mathematics. A list of pairs (tick, share) is taken by what it gives against functions of the tick. -/
namespace PD
abbrev PL := List (Int × Rat)
def sumQ : List Rat → Rat
  | [] => 0
  | q :: l => q + sumQ l
/-- against a function of the tick -/
def pairW (ps : PL) (φ : Int → Rat) : Rat := sumQ (ps.map fun x => x.2 * φ x.1)
def delta (t : Int) : Int → Rat := fun s => if s = t then 1 else 0
def sumAt (ps : PL) (t : Int) : Rat := pairW ps (delta t)
theorem pw_nil (φ : Int → Rat) : pairW [] φ = 0 := rfl
theorem pw_cons (x : Int × Rat) (ps : PL) (φ : Int → Rat) : pairW (x :: ps) φ = x.2 * φ x.1 + pairW ps φ := rfl
theorem pw_app (ps qs : PL) (φ : Int → Rat) : pairW (ps ++ qs) φ = pairW ps φ + pairW qs φ := by
  induction ps with
  | nil => simp [pw_nil, Rat.zero_add]
  | cons x ps ih => rw [List.cons_append, pw_cons, pw_cons, ih, Rat.add_assoc]
theorem pw_zero (ps : PL) : pairW ps (fun _ => 0) = 0 := by
  induction ps with
  | nil => rfl
  | cons x ps ih => rw [pw_cons, ih]; simp [Rat.mul_zero, Rat.add_zero]
theorem pw_add (ps : PL) (φ ψ : Int → Rat) : pairW ps (fun t => φ t + ψ t) = pairW ps φ + pairW ps ψ := by
  induction ps with
  | nil => simp [pw_nil, Rat.add_zero]
  | cons x ps ih =>
    rw [pw_cons, pw_cons, pw_cons, ih, Rat.mul_add]
    grind
theorem pw_mul (ps : PL) (c : Rat) (φ : Int → Rat) : pairW ps (fun t => c * φ t) = c * pairW ps φ := by
  induction ps with
  | nil => simp [pw_nil, Rat.mul_zero]
  | cons x ps ih =>
    rw [pw_cons, pw_cons, ih, Rat.mul_add]
    grind
theorem pw_congr {ps : PL} {φ ψ : Int → Rat} (h : ∀ t, φ t = ψ t) : pairW ps φ = pairW ps ψ := by rw [funext h]
/-- the sequence does not count -/
theorem pw_swap (a b : PL) (F : Int → Int → Rat) : pairW a (fun s => pairW b fun u => F s u) = pairW b fun u => pairW a fun s => F s u := by
  induction a with
  | nil => simp only [pw_nil]; rw [pw_zero]
  | cons x a ih =>
    rw [pw_cons, ih]
    simp only [pw_cons]
    rw [pw_add, pw_mul]
def prodL (a b : PL) : PL := a.flatMap fun x => b.map fun y => (x.1 + y.1, x.2 * y.2)
theorem pw_shift (x : Int × Rat) (b : PL) (φ : Int → Rat) : pairW (b.map fun y => (x.1 + y.1, x.2 * y.2)) φ = x.2 * pairW b fun u => φ (x.1 + u) := by
  induction b with
  | nil => simp [pw_nil, Rat.mul_zero]
  | cons y b ih =>
    rw [List.map_cons, pw_cons, pw_cons, ih, Rat.mul_add]
    grind
theorem pw_prod (a b : PL) (φ : Int → Rat) : pairW (prodL a b) φ = pairW a fun s => pairW b fun u => φ (s + u) := by
  induction a with
  | nil => rfl
  | cons x a ih =>
    show pairW ((b.map fun y => (x.1 + y.1, x.2 * y.2)) ++ prodL a b) φ = _
    rw [pw_app, pw_shift, pw_cons, ih]
/-! ### rows in their plain form -/
structure Can (r : PL) : Prop where
  asc : r.Pairwise fun x y => x.1 < y.1
  nz : ∀ x ∈ r, x.2 ≠ 0
theorem at_out {r : PL} {t : Int} (h : ∀ x ∈ r, x.1 ≠ t) : sumAt r t = 0 := by
  induction r with
  | nil => rfl
  | cons x r ih =>
    unfold sumAt at *
    rw [pw_cons, ih fun y hy => h y (List.mem_cons_of_mem _ hy)]
    have : delta t x.1 = 0 := if_neg (h x List.mem_cons_self)
    rw [this]
    simp [Rat.mul_zero, Rat.add_zero]
theorem at_head {x : Int × Rat} {r : PL} (h : (x :: r).Pairwise fun x y => x.1 < y.1) : sumAt (x :: r) x.1 = x.2 := by
  have h2 : sumAt r x.1 = 0 := at_out fun y hy e => by
    have := List.rel_of_pairwise_cons h hy
    omega
  unfold sumAt at *
  rw [pw_cons, h2]
  simp [delta, Rat.mul_one, Rat.add_zero]
theorem can_ext : ∀ {r s : PL}, Can r → Can s → (∀ t, sumAt r t = sumAt s t) → r = s
  | [], [], _, _, _ => rfl
  | [], y :: s, _, h2, h => by
    have := h y.1
    rw [at_head h2.asc] at this
    exact absurd this.symm (h2.nz y List.mem_cons_self)
  | x :: r, [], h1, _, h => by
    have := h x.1
    rw [at_head h1.asc] at this
    exact absurd this (h1.nz x List.mem_cons_self)
  | x :: r, y :: s, h1, h2, h => by
    have hxy : x.1 = y.1 := by
      rcases Int.lt_trichotomy x.1 y.1 with c | c | c
      · have e := h x.1
        rw [at_head h1.asc, at_out (r := y :: s) fun z hz e => by
          rcases List.mem_cons.mp hz with rfl | hz
          · omega
          · have := List.rel_of_pairwise_cons h2.asc hz
            omega] at e
        exact absurd e (h1.nz x List.mem_cons_self)
      · exact c
      · have e := h y.1
        rw [at_head h2.asc, at_out (r := x :: r) fun z hz e => by
          rcases List.mem_cons.mp hz with rfl | hz
          · omega
          · have := List.rel_of_pairwise_cons h1.asc hz
            omega] at e
        exact absurd e.symm (h2.nz y List.mem_cons_self)
    have hv : x.2 = y.2 := by
      have e := h x.1
      rw [at_head h1.asc] at e
      rw [e, hxy, at_head h2.asc]
    have hx : x = y := Prod.ext hxy hv
    subst hx
    have c1 : Can r := ⟨(List.pairwise_cons.mp h1.asc).2, fun z hz => h1.nz z (List.mem_cons_of_mem _ hz)⟩
    have c2 : Can s := ⟨(List.pairwise_cons.mp h2.asc).2, fun z hz => h2.nz z (List.mem_cons_of_mem _ hz)⟩
    rw [can_ext c1 c2 fun t => by
      have e := h t
      unfold sumAt at *
      rw [pw_cons, pw_cons] at e
      exact Rat.add_left_cancel _ e]
/-! ### the dict that gathers -/
def getQ (acc : PL) (t : Int) : Rat := match acc.lookup t with
  | some q => q
  | none => 0
/-- found[t] = .. -/
def putQ (acc : PL) (t : Int) (q : Rat) : PL := if t ∈ acc.map (·.1) then acc.map fun x => if x.1 = t then (x.1, q) else x else acc ++ [(t, q)]
def addQ (acc : PL) (x : Int × Rat) : PL := putQ acc x.1 (getQ acc x.1 + x.2)
def gather (ps : PL) : PL := ps.foldl addQ []
theorem put_nodup {acc : PL} {t : Int} {q : Rat} (h : (acc.map (·.1)).Nodup) : ((putQ acc t q).map (·.1)).Nodup := by
  unfold putQ
  split
  · rw [List.map_map]
    have : ((fun x : Int × Rat => x.1) ∘ fun x => if x.1 = t then (x.1, q) else x) = fun x => x.1 := by
      funext x
      show (if x.1 = t then (x.1, q) else x).1 = x.1
      split <;> rfl
    rw [this]
    exact h
  · rename_i hn
    rw [List.map_append, List.nodup_append]
    refine ⟨h, by simp, fun a ha b hb e => ?_⟩
    simp at hb
    subst hb
    subst e
    exact hn ha
theorem pw_upd {acc : PL} {t : Int} {q : Rat} {φ : Int → Rat} : t ∉ acc.map (·.1) → pairW (acc.map fun x => if x.1 = t then (x.1, q) else x) φ = pairW acc φ := by
  induction acc with
  | nil => intro _; rfl
  | cons x acc ih =>
    intro h
    rw [List.map_cons, List.mem_cons, not_or] at h
    rw [List.map_cons, pw_cons, pw_cons, ih h.2, if_neg (fun e => h.1 e.symm)]
theorem look_out {acc : PL} {t : Int} (h : t ∉ acc.map (·.1)) : acc.lookup t = none := by
  induction acc with
  | nil => rfl
  | cons x acc ih =>
    rw [List.map_cons, List.mem_cons, not_or] at h
    have : (t == x.1) = false := by simpa using h.1
    rw [List.lookup_cons, this]
    exact ih h.2
theorem put_pair {acc : PL} {t : Int} {q : Rat} (h : (acc.map (·.1)).Nodup) (φ : Int → Rat) : pairW (putQ acc t (getQ acc t + q)) φ = pairW acc φ + q * φ t := by
  unfold putQ
  split
  · rename_i hm
    induction acc with
    | nil => cases hm
    | cons x acc ih =>
      rw [List.map_cons, List.nodup_cons] at h
      by_cases c : x.1 = t
      · have e : getQ (x :: acc) t = x.2 := by
          unfold getQ
          rw [List.lookup_cons, show (t == x.1) = true by simp [c]]
        rw [List.map_cons, pw_cons, pw_cons, if_pos c, pw_upd (by rw [← c]; exact h.1), e]
        rw [Rat.add_mul, c]
        grind
      · have e : getQ (x :: acc) t = getQ acc t := by
          unfold getQ
          rw [List.lookup_cons, show (t == x.1) = false by simpa using fun z => c z.symm]
        have hm' : t ∈ acc.map (·.1) := (List.mem_cons.mp (by simpa using hm)).resolve_left fun z => c z.symm
        rw [List.map_cons, pw_cons, pw_cons, if_neg c, e, ih h.2 hm']
        rw [Rat.add_assoc]
  · rename_i hn
    have e : getQ acc t = 0 := by
      unfold getQ
      rw [look_out hn]
    rw [pw_app, e, Rat.zero_add, pw_cons, pw_nil, Rat.add_zero]
theorem gather_gen : ∀ (ps acc : PL), (acc.map (·.1)).Nodup → ((ps.foldl addQ acc).map (·.1)).Nodup ∧ ∀ φ, pairW (ps.foldl addQ acc) φ = pairW acc φ + pairW ps φ
  | [], acc, h => ⟨h, fun φ => by rw [pw_nil, Rat.add_zero]; rfl⟩
  | x :: ps, acc, h => by
    obtain ⟨h1, h2⟩ := gather_gen ps (addQ acc x) (put_nodup h)
    refine ⟨h1, fun φ => ?_⟩
    rw [List.foldl_cons, h2, addQ, put_pair h, pw_cons, Rat.add_assoc]
theorem gather_nodup (ps : PL) : ((gather ps).map (·.1)).Nodup := (gather_gen ps [] (by simp)).1
theorem gather_pair (ps : PL) (φ : Int → Rat) : pairW (gather ps) φ = pairW ps φ := by
  rw [gather, (gather_gen ps [] (by simp)).2, pw_nil, Rat.zero_add]
theorem get_mem {acc : PL} {x : Int × Rat} (h : (acc.map (·.1)).Nodup) (hx : x ∈ acc) : getQ acc x.1 = x.2 := by
  induction acc with
  | nil => cases hx
  | cons y acc ih =>
    rw [List.map_cons, List.nodup_cons] at h
    rcases List.mem_cons.mp hx with rfl | hx
    · unfold getQ
      simp [List.lookup]
    · have : (x.1 == y.1) = false := by
        simp only [beq_eq_false_iff_ne, ne_eq]
        intro e
        exact h.1 (List.mem_map.mpr ⟨x, hx, e⟩)
      have e : getQ (y :: acc) x.1 = getQ acc x.1 := by
        unfold getQ
        rw [List.lookup_cons, this]
      rw [e]
      exact ih h.2 hx
theorem acc_keys {acc : PL} (h : (acc.map (·.1)).Nodup) : (acc.map (·.1)).map (fun t => (t, getQ acc t)) = acc := by
  rw [List.map_map]
  have : acc.map ((fun t => (t, getQ acc t)) ∘ (·.1)) = acc.map id := List.map_congr_left fun x hx => Prod.ext rfl (get_mem h hx)
  rw [this, List.map_id]
theorem get_at {acc : PL} (h : (acc.map (·.1)).Nodup) (t : Int) : getQ acc t = sumAt acc t := by
  by_cases hm : t ∈ acc.map (·.1)
  · induction acc with
    | nil => cases hm
    | cons x acc ih =>
      rw [List.map_cons, List.nodup_cons] at h
      unfold sumAt at *
      rw [pw_cons]
      by_cases c : x.1 = t
      · have e : getQ (x :: acc) t = x.2 := by
          unfold getQ
          rw [List.lookup_cons, show (t == x.1) = true by simp [c]]
        have z := at_out (r := acc) (t := t) fun y hy e => h.1 (List.mem_map.mpr ⟨y, hy, e.trans c.symm⟩)
        unfold sumAt at z
        rw [e, z]
        simp [delta, c, Rat.mul_one, Rat.add_zero]
      · have e : getQ (x :: acc) t = getQ acc t := by
          unfold getQ
          rw [List.lookup_cons, show (t == x.1) = false by simpa using fun z => c z.symm]
        rw [e, ih h.2 ((List.mem_cons.mp (by simpa using hm)).resolve_left fun z => c z.symm)]
        simp [delta, c, Rat.mul_zero, Rat.zero_add]
  · rw [at_out fun x hx e => hm (List.mem_map.mpr ⟨x, hx, e⟩)]
    unfold getQ
    rw [look_out hm]
/-! ### the plain form -/
def sortK (l : List Int) : List Int := l.mergeSort fun a b => decide (a ≤ b)
/-- what Row(..) keeps of pairs -/
def norm (ps : PL) : PL := ((sortK ((gather ps).map (·.1))).filter fun t => !decide (getQ (gather ps) t = 0)).map fun t => (t, getQ (gather ps) t)
theorem pw_perm {a b : PL} (h : a.Perm b) (φ : Int → Rat) : pairW a φ = pairW b φ := by
  induction h with
  | nil => rfl
  | cons x _ ih => rw [pw_cons, pw_cons, ih]
  | swap x y l => rw [pw_cons, pw_cons, pw_cons, pw_cons, Rat.add_left_comm]
  | trans _ _ h1 h2 => rw [h1, h2]
theorem pw_filter (l : List Int) (g : Int → Rat) (φ : Int → Rat) : pairW ((l.filter fun t => !decide (g t = 0)).map fun t => (t, g t)) φ = pairW (l.map fun t => (t, g t)) φ := by
  induction l with
  | nil => rfl
  | cons t l ih =>
    by_cases c : g t = 0
    · rw [List.filter_cons_of_neg (by simp [c]), List.map_cons, pw_cons, ih]
      simp [c, Rat.zero_mul, Rat.zero_add]
    · rw [List.filter_cons_of_pos (by simp [c]), List.map_cons, List.map_cons, pw_cons, pw_cons, ih]
theorem norm_pair (ps : PL) (φ : Int → Rat) : pairW (norm ps) φ = pairW ps φ := by
  unfold norm
  have e := pw_perm ((List.mergeSort_perm ((gather ps).map (·.1)) (fun a b => decide (a ≤ b))).map fun t => (t, getQ (gather ps) t)) φ
  rw [pw_filter]
  show pairW (((List.mergeSort _ _)).map _) φ = _
  rw [e, acc_keys (gather_nodup ps), gather_pair]
theorem sortK_asc {l : List Int} (h : l.Nodup) : (sortK l).Pairwise fun a b => a < b := by
  have h1 := List.pairwise_mergeSort (le := fun a b : Int => decide (a ≤ b)) (fun a b c => by simp; omega) (fun a b => by simp; omega) l
  have h2 : (sortK l).Nodup := (List.mergeSort_perm l _).nodup_iff.mpr h
  refine List.Pairwise.imp₂ (fun a b hab hne => ?_) h1 h2
  have : a ≤ b := by simpa using hab
  have : a ≠ b := hne
  omega
theorem norm_can (ps : PL) : Can (norm ps) := by
  refine ⟨?_, fun x hx => ?_⟩
  · unfold norm
    rw [List.pairwise_map]
    exact (sortK_asc (gather_nodup ps)).filter _
  · obtain ⟨t, ht, rfl⟩ := List.mem_map.mp hx
    simpa using (List.mem_filter.mp ht).2
theorem norm_eq {a b : PL} (h : ∀ φ, pairW a φ = pairW b φ) : norm a = norm b := can_ext (norm_can a) (norm_can b) fun t => by
  unfold sumAt
  rw [norm_pair, norm_pair, h]
theorem norm_self {r : PL} (h : Can r) : norm r = r := can_ext (norm_can r) h fun t => by
  unfold sumAt
  rw [norm_pair]
end PD
/-! Rows: what the class's defs do. -/
namespace PD
def pairP (x : Int × Rat) : P := .tup [.int x.1, fr x.2]
def keysP (r : PL) : List L2.Key := r.map fun x => .inl x.1
def valsP (r : PL) : List P := r.map fun x => fr x.2
def dkP (r : PL) : P := .dk (keysP r) (valsP r)
def rowP (r : PL) : P := .ins 0 ["shares"] [dkP r]
theorem pairP_inj {x y : Int × Rat} (h : pairP x = pairP y) : x = y := by
  simp only [pairP, P.tup.injEq, List.cons.injEq, P.int.injEq, and_true] at h
  exact Prod.ext h.1 (fr_inj h.2)
theorem map_inj {α β : Type} {f : α → β} (hf : ∀ a b, f a = f b → a = b) : ∀ {l m : List α}, l.map f = m.map f → l = m
  | [], [], _ => rfl
  | [], _ :: _, h => by cases h
  | _ :: _, [], h => by cases h
  | a :: l, b :: m, h => by
    simp only [List.map_cons, List.cons.injEq] at h
    rw [hf _ _ h.1, map_inj hf h.2]
theorem dkP_inj {r s : PL} (h : dkP r = dkP s) : r = s := by
  simp only [dkP, P.dk.injEq, keysP, valsP] at h
  obtain ⟨h1, h2⟩ := h
  have h3 : r.map (·.1) = s.map (·.1) := by
    have := congrArg (List.map fun k : L2.Key => match k with | .inl i => i | .inr _ => 0) h1
    simpa [List.map_map, Function.comp_def] using this
  have h4 : r.map (·.2) = s.map (·.2) := map_inj (f := fr) (fun a b => fr_inj) (by simpa [List.map_map, Function.comp_def] using h2)
  have : ∀ {r s : PL}, r.map (·.1) = s.map (·.1) → r.map (·.2) = s.map (·.2) → r = s := by
    intro r
    induction r with
    | nil => intro s h _; cases s with | nil => rfl | cons _ _ => cases h
    | cons x r ih =>
      intro s h k
      cases s with
      | nil => cases h
      | cons y s =>
        simp only [List.map_cons, List.cons.injEq] at h k
        rw [Prod.ext h.1 k.1, ih h.2 k.2]
  exact this h3 h4
theorem rowP_inj {r s : PL} (h : rowP r = rowP s) : r = s := by
  simp only [rowP, P.ins.injEq, List.cons.injEq, and_true, true_and] at h
  exact dkP_inj h
/-! ### sizes -/
/-- a number of parts of D, not above V -/
def Gr (D V : Nat) (q : Rat) : Prop := ∃ n : Int, q = Rat.divInt n D ∧ n.natAbs ≤ V * D
theorem Gr.mono {D V W : Nat} {q : Rat} (h : Gr D V q) (hv : V ≤ W) : Gr D W q := let ⟨n, e, b⟩ := h; ⟨n, e, Nat.le_trans b (Nat.mul_le_mul_right _ hv)⟩
theorem Gr.zero (D V : Nat) : Gr D V 0 := ⟨0, by simp, by simp⟩
theorem Gr.add {D V W : Nat} {p q : Rat} (hd : D ≠ 0) (h : Gr D V p) (h' : Gr D W q) : Gr D (V + W) (p + q) := by
  obtain ⟨n, rfl, b⟩ := h
  obtain ⟨m, rfl, c⟩ := h'
  refine ⟨n + m, ?_, ?_⟩
  · have hd' : (D : Int) ≠ 0 := by omega
    rw [Rat.divInt_add_divInt _ _ hd' hd', ← Int.add_mul, Rat.divInt_mul_right hd']
  · have := Int.natAbs_add_le n m
    rw [Nat.add_mul]
    omega
theorem Gr.mul {D E V W : Nat} {p q : Rat} (h : Gr D V p) (h' : Gr E W q) : Gr (D * E) (V * W) (p * q) := by
  obtain ⟨n, rfl, b⟩ := h
  obtain ⟨m, rfl, c⟩ := h'
  refine ⟨n * m, ?_, ?_⟩
  · rw [Rat.divInt_mul_divInt]
    simp
  · rw [Int.natAbs_mul]
    calc n.natAbs * m.natAbs ≤ (V * D) * (W * E) := Nat.mul_le_mul b c
      _ = V * W * (D * E) := by rw [Nat.mul_mul_mul_comm]
theorem Gr.up {D E V : Nat} {q : Rat} (he : E ≠ 0) (h : Gr D V q) : Gr (D * E) V q := by
  obtain ⟨n, rfl, b⟩ := h
  refine ⟨n * E, ?_, ?_⟩
  · rw [show ((D * E : Nat) : Int) = (D : Int) * E by simp, Rat.divInt_mul_right (by omega)]
  · rw [Int.natAbs_mul, Int.natAbs_natCast, ← Nat.mul_assoc]
    exact Nat.mul_le_mul_right _ b
theorem Gr.sm {D V : Nat} {q : Rat} (h0 : D ≠ 0) (hD : D < 2 ^ 4000) (hV : V * D < 2 ^ 4000) (h : Gr D V q) : sm q := by
  obtain ⟨n, rfl, b⟩ := h
  refine ⟨?_, ?_⟩
  · rw [Rat.num_divInt]
    have hp : (D : Int).sign = 1 := Int.sign_eq_one_of_pos (by omega)
    rw [hp, Int.one_mul]
    have : (n / ((Int.gcd D n : Nat) : Int)).natAbs ≤ n.natAbs := Int.natAbs_ediv_le_natAbs _ _
    omega
  · rw [Rat.den_divInt, if_neg (by omega), Int.natAbs_natCast]
    exact Nat.lt_of_le_of_lt (Nat.div_le_self _ _) hD
def DD : Nat := 216000
def VV : Nat := 10 ^ 60
theorem sm_gr {q : Rat} (h : Gr DD (1000 * VV) q) : sm q := h.sm (by decide) (Nat.lt_of_lt_of_le (show DD < 2 ^ 20 by decide) (Nat.pow_le_pow_right (by omega) (by omega))) (Nat.lt_of_lt_of_le (show 1000 * VV * DD < 2 ^ 250 by decide) (Nat.pow_le_pow_right (by omega) (by omega)))
/-- pairs that every step can bear -/
structure Tame (ps : PL) : Prop where
  len : ps.length ≤ 300
  tk : ∀ x ∈ ps, 0 ≤ x.1 ∧ x.1 < 60
  gr : ∀ x ∈ ps, Gr DD VV x.2
theorem Tame.sm {ps : PL} (h : Tame ps) {x : Int × Rat} (hx : x ∈ ps) : sm x.2 := sm_gr ((h.gr x hx).mono (by decide))
/-! ### is_pair, check_tick -/
def B_ispair (n i j : Nat) : IB := (.cons (.ret true (.and (.o1 (.isA n [.tup]) (.var 0)) (.and (.o2 .eq (.o1 .len (.var 0)) (.cst (.int 2))) (.and (.call true i [.non] (.cons (.o2 .ix (.var 0) (.cst (.int 0))) (.cons (.cst (.int 0)) .nil))) (.call true j [] (.cons (.o2 .ix (.var 0) (.cst (.int 1))) .nil))))))
      .nil)
noncomputable def F_ispair : List Arg → LR := dec (α := Int × Rat) (fun x => [.p (pairP x)]) (fun x => 0 ≤ x.1 ∧ sm x.2) (fun _ => .ok (.p (.bl true)) [])
theorem F_ispair_eq {x : Int × Rat} (h : 0 ≤ x.1 ∧ sm x.2) : F_ispair [.p (pairP x)] = .ok (.p (.bl true)) [] := dec_eq (a := x) (fun a b h => pairP_inj (by simpa using h)) h
theorem says_ispair (Φ : Nat → List Arg → LR) (fuel n i j : Nat) (hi : Φ i = F_isint) (hj : Φ j = F_isfr) : ∀ as, Says (runB Φ fuel (B_ispair n i j) 1 (numA 0 as) (boxesA as)) (boxesA as).length (F_ispair as) := dec_says fun x h => by
  refine ⟨[], ?_, rfl, rfl⟩
  simp [B_ispair, runB, exs, ex, ev, evT, evL, Res.bind, Res.out, Out.andThen, optR, view, numA, boxesA, truth, frz, frzL, hi, hj, pairP, prim1, isTy, eq_int, ix0, ix1, isint_2, h.1, isfr_1 h.2]
def B_chkt (i : Nat) : IB := (.cons (.iff (.not (.tr (.call true i [.non] (.cons (.var 0) (.cons (.cst (.int 0)) .nil)))))
      (.cons .bad
      .nil)
      .nil)
      .nil)
noncomputable def F_chkt : List Arg → LR := dec (α := Int) (fun x => [.p (.int x)]) (fun x => 0 ≤ x) (fun _ => .ok (.p .non) [])
theorem F_chkt_eq {x : Int} (h : 0 ≤ x) : F_chkt [.p (.int x)] = .ok (.p .non) [] := dec_eq (a := x) (fun a b h => by simpa using h) h
theorem says_chkt (Φ : Nat → List Arg → LR) (fuel i : Nat) (hi : Φ i = F_isint) : ∀ as, Says (runB Φ fuel (B_chkt i) 1 (numA 0 as) (boxesA as)) (boxesA as).length (F_chkt as) := dec_says fun x h => by
  refine ⟨[], ?_, rfl, rfl⟩
  simp [B_chkt, runB, exs, ex, ev, evT, evL, Res.bind, Res.out, Out.andThen, optR, view, numA, boxesA, truth, frz, frzL, hi, isint_2, h]
/-! ### loops of comprehensions -/
theorem turns_map {step : P → Sto → Res (Option P)} {f : P → P} : ∀ {items acc : List P} {S : Sto}, (∀ x ∈ items, step x S = .ok (some (f x)) S) → acc.length + items.length ≤ PySem.sizeLine → turns step items acc S = .ok (acc ++ items.map f) S
  | [], acc, S, _, _ => by simp [turns]
  | x :: items, acc, S, h, hl => by
    rw [List.length_cons] at hl
    simp only [turns, h x List.mem_cons_self, Res.bind]
    rw [if_pos (by omega), turns_map (fun y hy => h y (List.mem_cons_of_mem _ hy)) (by simp; omega)]
    simp
end PD
/-! Row(..): what the constructor does. -/
namespace PD
open PySem (sizeLine)
theorem look_acc (acc : PL) (t : Int) : look (keysP acc) (valsP acc) (.inl t : L2.Key) = (acc.lookup t).map fr := by
  induction acc with
  | nil => rfl
  | cons x acc ih =>
    show (if (Sum.inl x.1 : L2.Key) = Sum.inl t then some (fr x.2) else look (keysP acc) (valsP acc) (.inl t)) = _
    by_cases c : x.1 = t
    · rw [if_pos (by rw [c]), List.lookup_cons, show (t == x.1) = true by simp [c]]
      rfl
    · rw [if_neg (fun e => c (by simpa using e)), ih, List.lookup_cons, show (t == x.1) = false by simpa using fun z => c z.symm]
theorem fr0 : (.tup [.int 0, .int 1] : P) = fr 0 := rfl
theorem get_acc (acc : PL) (t : Int) : getP (dkP acc) (.int t) (fr 0) = some (fr (getQ acc t)) := by
  show some ((look (keysP acc) (valsP acc) (.inl t)).getD (fr 0)) = _
  rw [look_acc]
  unfold getQ
  cases acc.lookup t <;> rfl
theorem key_acc {acc : PL} {t : Int} : (Sum.inl t : L2.Key) ∈ keysP acc ↔ t ∈ acc.map (·.1) := by
  simp [keysP]
theorem put_acc (acc : PL) (t : Int) (q : Rat) : putv (keysP acc) (valsP acc) (.inl t : L2.Key) (fr q) = (keysP (putQ acc t q), valsP (putQ acc t q)) := by
  unfold putv putQ
  by_cases c : t ∈ acc.map (·.1)
  · rw [if_pos (key_acc.mpr c), if_pos c]
    refine Prod.ext ?_ ?_
    · show keysP acc = _
      unfold keysP
      rw [List.map_map]
      apply List.map_congr_left
      intro x _
      show _ = Sum.inl (if x.1 = t then (x.1, q) else x).1
      split <;> rfl
    · show ((keysP acc).zip (valsP acc)).map _ = _
      unfold keysP valsP
      rw [List.zip_map', List.map_map]
      dsimp only
      rw [List.map_map]
      apply List.map_congr_left
      intro x _
      by_cases e : x.1 = t
      · simp [e]
      · simp [e]
  · rw [if_neg (fun z => c (key_acc.mp z)), if_neg c]
    simp [keysP, valsP]
theorem ikeys_acc (acc : PL) : ikeys (keysP acc) = some (acc.map (·.1)) := by
  induction acc with
  | nil => rfl
  | cons x acc ih =>
    show (ikeys (keysP acc)).map (x.1 :: ·) = _
    rw [ih]
    rfl
theorem len_acc (acc : PL) : (keysP acc).length = acc.length := List.length_map _
/-- what has been gathered so far can be borne -/
structure AccOk (m : Nat) (acc : PL) : Prop where
  len : acc.length ≤ m
  gr : ∀ x ∈ acc, Gr DD (m * VV) x.2
theorem AccOk.get {m : Nat} {acc : PL} (h : AccOk m acc) (t : Int) : Gr DD (m * VV) (getQ acc t) := by
  unfold getQ
  cases e : acc.lookup t with
  | none => exact Gr.zero _ _
  | some q =>
    have : (t, q) ∈ acc := by
      clear h
      induction acc with
      | nil => cases e
      | cons x acc ih =>
        rw [List.lookup_cons] at e
        by_cases c : t = x.1
        · rw [show (t == x.1) = true by simp [c]] at e
          cases e
          rw [c]
          exact List.mem_cons_self
        · rw [show (t == x.1) = false by simpa using c] at e
          exact List.mem_cons_of_mem _ (ih e)
    exact h.gr _ this
theorem AccOk.add {m : Nat} {acc : PL} {x : Int × Rat} (h : AccOk m acc) (hx : Gr DD VV x.2) : AccOk (m + 1) (addQ acc x) := by
  have hs : Gr DD ((m + 1) * VV) (getQ acc x.1 + x.2) := by
    rw [Nat.add_mul, Nat.one_mul]
    exact Gr.add (by decide) (h.get _) hx
  have up : ∀ y ∈ acc, Gr DD ((m + 1) * VV) y.2 := fun y hy => (h.gr y hy).mono (Nat.mul_le_mul_right _ (by omega))
  unfold addQ putQ
  split
  · refine ⟨by have := h.len; simp; omega, fun y hy => ?_⟩
    obtain ⟨z, hz, rfl⟩ := List.mem_map.mp hy
    by_cases c : z.1 = x.1
    · rw [if_pos c]; exact hs
    · rw [if_neg c]; exact up z hz
  · refine ⟨by have := h.len; simp; omega, fun y hy => ?_⟩
    rcases List.mem_append.mp hy with hy | hy
    · exact up y hy
    · simp at hy
      subst hy
      exact hs
def B_gat (i : Nat) : IB := (.cons (.ixset (.var 2) (.var 3) (.call true i [] (.cons (.get (.var 2) (.var 3) (.tup (.cons (.cst (.int 0)) (.cons (.cst (.int 1)) .nil)))) (.cons (.var 4) .nil))))
      .nil)
abbrev ρI (pr : P) (a b c : Option D) : List (Option D) := [some (.box 0), some (.p pr), some (.box 1), a, b, c]
abbrev SI (acc : PL) : Sto := [some (.ins 0 [] []), some (.dk (keysP acc) (valsP acc))]
theorem step_gat (Φ : Nat → List Arg → LR) (fuel i : Nat) (hi : Φ i = F_plus) {m : Nat} {acc : PL} {x : Int × Rat} {pr : P} {c : Option D} (h : AccOk m acc) (hm : m ≤ 300) (hx : Gr DD VV x.2) :
    exs Φ fuel (B_gat i) (ρI pr (some (.p (.int x.1))) (some (.p (fr x.2))) c) (SI acc) = .next (ρI pr (some (.p (.int x.1))) (some (.p (fr x.2))) c) (SI (addQ acc x)) := by
  have s1 : sm (getQ acc x.1) := sm_gr ((h.get x.1).mono (Nat.mul_le_mul_right _ (by omega)))
  have s2 : sm x.2 := sm_gr (hx.mono (by decide))
  have p2 := plus_2 s1 s2
  have hl : (keysP acc).length < sizeLine := by rw [len_acc, PySem.sizeLine_eq]; have := h.len; omega
  have pa := put_acc acc x.1 (getQ acc x.1 + x.2)
  have ga := get_acc acc x.1
  have ha : addQ acc x = putQ acc x.1 (getQ acc x.1 + x.2) := rfl
  have so : setO (.dk (keysP acc) (valsP acc)) (.int x.1) (fr (getQ acc x.1 + x.2)) = some (.dk (keysP (addQ acc x)) (valsP (addQ acc x))) := by
    simp only [setO, keyOf, Option.bind_some]
    rw [if_pos hl, pa, ha]
  have vw : view (SI acc) (.box 1) = some (dkP acc) := rfl
  have eg : ev Φ (.get (.var 2) (.var 3) (.tup (.cons (.cst (.int 0)) (.cons (.cst (.int 1)) .nil)))) (ρI pr (some (.p (.int x.1))) (some (.p (fr x.2))) c) (SI acc) = .ok (.p (fr (getQ acc x.1))) (SI acc) := by
    have e1 : ev Φ (.tup (.cons (.cst (.int 0)) (.cons (.cst (.int 1)) .nil))) (ρI pr (some (.p (.int x.1))) (some (.p (fr x.2))) c) (SI acc) = .ok (.p (fr 0)) (SI acc) := by
      simp [ev, evL, Res.bind, frzL, frz, PySem.sizeLine_eq, fr0]
    simp only [ev] at e1 ⊢
    simp only [List.getElem?_cons_succ, List.getElem?_cons_zero, Res.bind, vw, Option.map_some, isDict, dkP, if_true]
    rw [show (evL Φ (.cons (.cst (.int 0)) (.cons (.cst (.int 1)) .nil)) (ρI pr (some (.p (.int x.1))) (some (.p (fr x.2))) c) (SI acc)) = .ok [.p (.int 0), .p (.int 1)] (SI acc) from rfl] at e1 ⊢
    simp [Res.bind, frzL, frz, PySem.sizeLine_eq, optR, view, fr0, cont]
    rw [show (P.dk (keysP acc) (valsP acc)) = dkP acc from rfl, ga]
    rfl
  rw [B_gat, exs_cons]
  have e2 : ev Φ (.call true i [] (.cons (.get (.var 2) (.var 3) (.tup (.cons (.cst (.int 0)) (.cons (.cst (.int 1)) .nil)))) (.cons (.var 4) .nil))) (ρI pr (some (.p (.int x.1))) (some (.p (fr x.2))) c) (SI acc) = .ok (.p (fr (getQ acc x.1 + x.2))) (SI acc) := by
    refine call_p (ps := [fr (getQ acc x.1), fr x.2]) ?_ ?_
    · simp only [evL, eg, Res.bind]
      simp [ev]
    · rw [hi]
      exact F_two_eq (dom := sm2) ⟨s1, s2⟩
  simp only [ex]
  rw [e2]
  simp only [Res.out, frz, ev, List.getElem?_cons_succ, List.getElem?_cons_zero, so, exs_nil, Out.andThen, List.set_cons_succ, List.set_cons_zero]
theorem loop_gat (Φ : Nat → List Arg → LR) (fuel i : Nat) (hi : Φ i = F_plus) (pr : P) (c : Option D) : ∀ (ps acc : PL) (m : Nat) (a b : Option D), AccOk m acc → m + ps.length ≤ 300 → (∀ x ∈ ps, Gr DD VV x.2) →
    ∃ a' b', forO (fun x ρ S => match setTg (.tp [3, 4]) x ρ with
      | some ρ => exs Φ fuel (B_gat i) ρ S
      | none => .bad) (ps.map pairP) (ρI pr a b c) (SI acc) = .next (ρI pr a' b' c) (SI (ps.foldl addQ acc)) ∧ AccOk (m + ps.length) (ps.foldl addQ acc)
  | [], acc, m, a, b, h, _, _ => ⟨a, b, rfl, h⟩
  | x :: ps, acc, m, a, b, h, hm, hx => by
    rw [List.length_cons] at hm
    have hx1 := hx x List.mem_cons_self
    obtain ⟨a', b', h1, h2⟩ := loop_gat Φ fuel i hi pr c ps (addQ acc x) (m + 1) (some (.p (.int x.1))) (some (.p (fr x.2))) (h.add hx1) (by omega) fun y hy => hx y (List.mem_cons_of_mem _ hy)
    refine ⟨a', b', ?_, by rw [List.length_cons]; have e : m + (ps.length + 1) = m + 1 + ps.length := by omega
                           rw [e]; exact h2⟩
    rw [List.map_cons, forO]
    have e1 : setTg (.tp [3, 4]) (pairP x) (ρI pr a b c) = some (ρI pr (some (.p (.int x.1))) (some (.p (fr x.2))) c) := rfl
    rw [e1]
    dsimp only
    rw [step_gat Φ fuel i hi h (by omega) hx1]
    exact h1
end PD
/-! Row(..): the end of the constructor. -/
namespace PD
open PySem (sizeLine)
theorem putv_new {ks : List L2.Key} {vs : List P} {k : L2.Key} {v : P} (h : k ∉ ks) : putv ks vs k v = (ks ++ [k], vs ++ [v]) := if_neg h
/-- the comprehension that keeps what is not nothing -/
theorem turns_keep {step : P → Sto → Res (Option (L2.Key × P))} {g : Int → Rat} : ∀ {l : List Int} {r : PL} {S : Sto}, (∀ t ∈ l, step (.int t) S = .ok (if g t = 0 then none else some (.inl t, fr (g t))) S) → l.Nodup → (∀ t ∈ l, t ∉ r.map (·.1)) → r.length + l.length < sizeLine →
    turnsD step (l.map .int) (keysP r) (valsP r) S = .ok (keysP (r ++ (l.filter fun t => !decide (g t = 0)).map fun t => (t, g t)), valsP (r ++ (l.filter fun t => !decide (g t = 0)).map fun t => (t, g t))) S
  | [], r, S, _, _, _, _ => by simp [turnsD]
  | t :: l, r, S, h, nd, hr, hl => by
    rw [List.nodup_cons] at nd
    rw [List.length_cons] at hl
    rw [List.map_cons, turnsD, h t List.mem_cons_self]
    simp only [Res.bind]
    by_cases c : g t = 0
    · rw [if_pos c, List.filter_cons_of_neg (by simp [c])]
      exact turns_keep (fun u hu => h u (List.mem_cons_of_mem _ hu)) nd.2 (fun u hu => hr u (List.mem_cons_of_mem _ hu)) (by omega)
    · rw [if_neg c, List.filter_cons_of_pos (by simp [c])]
      dsimp only
      have nk : (Sum.inl t : L2.Key) ∉ keysP r := fun z => hr t List.mem_cons_self (key_acc.mp z)
      rw [if_pos (by rw [len_acc]; omega), putv_new nk]
      have e1 : keysP r ++ [(Sum.inl t : L2.Key)] = keysP (r ++ [(t, g t)]) := by simp [keysP]
      have e2 : valsP r ++ [fr (g t)] = valsP (r ++ [(t, g t)]) := by simp [valsP]
      rw [e1, e2, turns_keep (r := r ++ [(t, g t)]) (fun u hu => h u (List.mem_cons_of_mem _ hu)) nd.2 (fun u hu => by
        rw [List.map_append, List.mem_append, not_or]
        refine ⟨hr u (List.mem_cons_of_mem _ hu), ?_⟩
        simp
        intro e
        exact nd.1 (e ▸ hu)) (by simp; omega)]
      simp
def B_init (n i j : Nat) : IB := (.cons (.iff (.or (.not (.tr (.o1 (.isA n [.lst, .tup]) (.var 1)))) (.not (.tr (.o1 .all (.lc false [5] (.call true i [] (.cons (.var 5) .nil)) (.nm 5) (.seq (.var 1)) .tt)))))
      (.cons .bad
      .nil)
      .nil)
      (.cons (.set (.nm 2) .dnew)
      (.cons (.for_ (.tp [3, 4]) (.seq (.var 1)) (B_gat j))
      (.cons (.fset 0 "shares" (.var 0) (.dc false [3] (.var 3) (.o2 .ix (.var 2) (.var 3)) (.nm 3) (.seq (.o1 .sortedI (.var 2))) (.tr (.o2 .ne (.o2 .ix (.o2 .ix (.var 2) (.var 3)) (.cst (.int 0))) (.cst (.int 0))))))
      .nil))))
def insO (ps : PL) : O := .ins 0 ["shares"] [.p (dkP (norm ps))]
noncomputable def F_init : List Arg → LR := dec (α := PL × Bool) (fun x => [.o (.ins 0 [] []), .p (if x.2 then .lst (x.1.map pairP) else .tup (x.1.map pairP))]) (fun x => Tame x.1) (fun x => .ok (.p .non) [insO x.1])
theorem F_init_eq {ps : PL} (b : Bool) (h : Tame ps) : F_init [.o (.ins 0 [] []), .p (if b then .lst (ps.map pairP) else .tup (ps.map pairP))] = .ok (.p .non) [insO ps] := dec_eq (a := (ps, b)) (fun a b h => by
  obtain ⟨a1, a2⟩ := a
  obtain ⟨b1, b2⟩ := b
  cases a2 <;> cases b2 <;> simp at h ⊢ <;> exact map_inj (fun _ _ => pairP_inj) h) h
/-- few ticks -/
theorem few {l : List Int} (nd : l.Nodup) (h : ∀ t ∈ l, 0 ≤ t ∧ t < 60) : l.length ≤ 60 := by
  have h1 : (l.map Int.toNat).Nodup := by
    rw [List.Nodup, List.pairwise_map]
    refine List.Pairwise.imp_of_mem (fun {a b} ha hb hab e => hab ?_) nd
    have := h a ha
    have := h b hb
    omega
  have h2 : ∀ x ∈ l.map Int.toNat, x ∈ List.range 60 := fun x hx => by
    obtain ⟨t, ht, rfl⟩ := List.mem_map.mp hx
    have := h t ht
    rw [List.mem_range]
    omega
  have h3 := List.Nodup.length_le_of_subset h1 h2
  simpa using h3
theorem gat_keys (ps : PL) : ∀ t ∈ (gather ps).map (·.1), t ∈ ps.map (·.1) := by
  have : ∀ (ps acc : PL), ∀ t ∈ (ps.foldl addQ acc).map (·.1), t ∈ acc.map (·.1) ∨ t ∈ ps.map (·.1) := by
    intro ps
    induction ps with
    | nil => intro acc t h; exact .inl h
    | cons x ps ih =>
      intro acc t h
      rcases ih (addQ acc x) t h with h | h
      · unfold addQ putQ at h
        split at h
        · rw [List.map_map] at h
          obtain ⟨y, hy, rfl⟩ := List.mem_map.mp h
          refine .inl (List.mem_map.mpr ⟨y, hy, ?_⟩)
          show y.1 = (if y.1 = x.1 then (y.1, _) else y).1
          split <;> rfl
        · rw [List.map_append, List.mem_append] at h
          rcases h with h | h
          · exact .inl h
          · simp at h
            exact .inr (by simp [h])
      · exact .inr (by simp at h ⊢; exact .inr h)
  intro t h
  rcases this ps [] t h with h | h
  · simp at h
  · exact h
end PD
/-! Row(..): the run of the constructor. -/
namespace PD
open PySem (sizeLine)
theorem bools_true {α : Type} (l : List α) : boolsOf (l.map fun _ => .bl true) = some (l.map fun _ => true) := by
  induction l with
  | nil => rfl
  | cons a l ih =>
    show (boolsOf (l.map fun _ => .bl true)).map (true :: ·) = _
    rw [ih]
    rfl
theorem all_true {α : Type} (l : List α) : (l.map fun _ => true).all id = true := by
  induction l with
  | nil => rfl
  | cons a l ih => simpa using ih
/-- the pairs as they are handed over -/
abbrev prP (b : Bool) (ps : PL) : P := if b then .lst (ps.map pairP) else .tup (ps.map pairP)
theorem seq_pr (b : Bool) (ps : PL) (Φ : Nat → List Arg → LR) {i : Nat} {ρ : List (Option D)} {S : Sto} (h : ρ[i]? = some (some (.p (prP b ps)))) : evS Φ (.seq (.var i)) ρ S = .ok (ps.map pairP) S := by
  cases b <;> (simp [evS, ev, h, Res.bind, frz]; rfl)
theorem all_pairs (Φ : Nat → List Arg → LR) (i : Nat) (hi : Φ i = F_ispair) (b : Bool) {ps : PL} (h : Tame ps) (S : Sto) :
    ev Φ (.o1 .all (.lc false [5] (.call true i [] (.cons (.var 5) .nil)) (.nm 5) (.seq (.var 1)) .tt)) [some (.box 0), some (.p (prP b ps)), none, none, none, none] S = .ok (.p (.bl true)) S := by
  have h1 := seq_pr b ps Φ (i := 1) (ρ := [some (.box 0), some (.p (prP b ps)), none, none, none, none]) (S := S) rfl
  have h2 : turns (stepL [5] (.nm 5) (evT Φ .tt) (ev Φ (.call true i [] (.cons (.var 5) .nil))) [some (.box 0), some (.p (prP b ps)), none, none, none, none]) (ps.map pairP) [] S = .ok ([] ++ (ps.map pairP).map fun _ => .bl true) S := by
    refine turns_map (fun x hx => ?_) (by have := h.len; simp [PySem.sizeLine_eq]; omega)
    obtain ⟨y, hy, rfl⟩ := List.mem_map.mp hx
    have ce : ev Φ (.call true i [] (.cons (.var 5) .nil)) [some (.box 0), some (.p (prP b ps)), none, none, none, some (.p (pairP y))] S = .ok (.p (.bl true)) S := by
      refine call_p (ps := [pairP y]) (by simp [evL, ev, Res.bind]) ?_
      rw [hi]
      exact F_ispair_eq ⟨(h.tk y hy).1, h.sm hy⟩
    show (match setTg (.nm 5) (pairP y) (wipeR [some (.box 0), some (.p (prP b ps)), none, none, none, none] [5]) with
      | some ρ' => (evT Φ .tt ρ' S).bind fun t S => if t then (ev Φ (.call true i [] (.cons (.var 5) .nil)) ρ' S).bind fun d S => (frz S d).bind fun p S => .ok (some p) S else .ok none S
      | none => .bad) = _
    have e : setTg (.nm 5) (pairP y) (wipeR [some (.box 0), some (.p (prP b ps)), none, none, none, none] [5]) = some [some (.box 0), some (.p (prP b ps)), none, none, none, some (.p (pairP y))] := rfl
    rw [e]
    simp only [evT, Res.bind, if_true, ce, frz]
  have h3 : ev Φ (.lc false [5] (.call true i [] (.cons (.var 5) .nil)) (.nm 5) (.seq (.var 1)) .tt) [some (.box 0), some (.p (prP b ps)), none, none, none, none] S = .ok (.p (.lst (ps.map fun _ => .bl true))) S := by
    show (evS Φ (.seq (.var 1)) _ S).bind _ = _
    rw [h1]
    simp only [Res.bind]
    rw [h2]
    simp [calm, boxIf, cont, optR]
  show (ev Φ (.lc false [5] (.call true i [] (.cons (.var 5) .nil)) (.nm 5) (.seq (.var 1)) .tt) _ S).bind _ = _
  rw [h3]
  simp only [Res.bind, view, Option.bind_some, prim1, bools_true, Option.map_some, all_true, optR]
theorem lookup_some {acc : PL} (nd : (acc.map (·.1)).Nodup) {t : Int} (h : t ∈ acc.map (·.1)) : acc.lookup t = some (getQ acc t) := by
  obtain ⟨x, hx, rfl⟩ := List.mem_map.mp h
  have : ∀ {l : PL}, (∃ y ∈ l, y.1 = x.1) → ∃ q, l.lookup x.1 = some q := by
    intro l
    induction l with
    | nil => intro ⟨y, hy, _⟩; cases hy
    | cons z l ih =>
      intro ⟨y, hy, e⟩
      rw [List.lookup_cons]
      by_cases c : x.1 = z.1
      · rw [show (x.1 == z.1) = true by simp [c]]; exact ⟨_, rfl⟩
      · rw [show (x.1 == z.1) = false by simpa using c]
        refine ih ⟨y, (List.mem_cons.mp hy).resolve_left fun z' => c (by rw [← z', e]), e⟩
  obtain ⟨q, hq⟩ := this ⟨x, hx, rfl⟩
  unfold getQ
  rw [hq]
theorem ix_acc {acc : PL} (nd : (acc.map (·.1)).Nodup) {t : Int} (h : t ∈ acc.map (·.1)) : prim2 .ix (dkP acc) (.int t) = some (fr (getQ acc t)) := by
  show look (keysP acc) (valsP acc) (.inl t : L2.Key) = _
  rw [look_acc, lookup_some nd h]
  rfl
abbrev dcE : IE := .dc false [3] (.var 3) (.o2 .ix (.var 2) (.var 3)) (.nm 3) (.seq (.o1 .sortedI (.var 2))) (.tr (.o2 .ne (.o2 .ix (.o2 .ix (.var 2) (.var 3)) (.cst (.int 0))) (.cst (.int 0))))
theorem run_dc (Φ : Nat → List Arg → LR) (pr : P) (a b : Option D) {ps : PL} (h : Tame ps) : ev Φ dcE (ρI pr a b none) (SI (gather ps)) = .ok (.p (dkP (norm ps))) (SI (gather ps)) := by
  have nd := gather_nodup ps
  have fw : ((gather ps).map (·.1)).length ≤ 60 := few nd fun t ht => by
    obtain ⟨x, hx, rfl⟩ := List.mem_map.mp (gat_keys ps t ht)
    exact h.tk x hx
  have vw : view (SI (gather ps)) (.box 1) = some (dkP (gather ps)) := rfl
  have srt : prim1 .sortedI (dkP (gather ps)) = some (.lst ((sortK ((gather ps).map (·.1))).map .int)) := by
    show (match ikeys (keysP (gather ps)) with
      | some ns => if ns.length < 64 then some (P.lst ((ns.mergeSort (fun a b => decide (a ≤ b))).map .int)) else none
      | none => none) = _
    rw [ikeys_acc]
    dsimp only
    rw [if_pos (by omega)]
    rfl
  have hsrc : evS Φ (.seq (.o1 .sortedI (.var 2))) (ρI pr a b none) (SI (gather ps)) = .ok ((sortK ((gather ps).map (·.1))).map .int) (SI (gather ps)) := by
    simp only [evS, ev, List.getElem?_cons_succ, List.getElem?_cons_zero, Res.bind, vw, Option.bind_some, srt, Option.map_some, optR, frz]
  have hm : ∀ t ∈ sortK ((gather ps).map (·.1)), t ∈ (gather ps).map (·.1) := fun t ht => (List.mergeSort_perm _ _).mem_iff.mp ht
  have hturn := turns_keep (step := stepD [3] (.nm 3) (evT Φ (.tr (.o2 .ne (.o2 .ix (.o2 .ix (.var 2) (.var 3)) (.cst (.int 0))) (.cst (.int 0))))) (ev Φ (.var 3)) (ev Φ (.o2 .ix (.var 2) (.var 3))) (ρI pr a b none)) (g := getQ (gather ps)) (l := sortK ((gather ps).map (·.1))) (r := []) (S := SI (gather ps)) (fun t ht => by
    have ixa := ix_acc nd (hm t ht)
    have x0 : prim2 .ix (fr (getQ (gather ps) t)) (.int 0) = some (.int (getQ (gather ps) t).num) := ix0 _ _
    have e : setTg (.nm 3) (.int t) (wipeR (ρI pr a b none) [3]) = some (ρI pr (some (.p (.int t))) b none) := rfl
    have vp : ∀ p : P, view (SI (gather ps)) (.p p) = some p := fun _ => rfl
    unfold stepD
    rw [e]
    by_cases c : getQ (gather ps) t = 0
    · have c' : (getQ (gather ps) t).num = 0 := Rat.num_eq_zero.mpr c
      rw [c'] at x0
      rw [c] at x0 ixa
      simp [evT, ev, Res.bind, vw, ixa, x0, optR, vp, ne_int, truth, c, c']
    · have c' : ¬ (getQ (gather ps) t).num = 0 := fun z => c (Rat.num_eq_zero.mp z)
      simp [evT, ev, Res.bind, vw, ixa, x0, optR, vp, ne_int, truth, c, c', frz, keyOf])
    ((List.mergeSort_perm _ _).nodup_iff.mpr nd) (fun t _ => by simp) (by
      have : (sortK ((gather ps).map (·.1))).length = ((gather ps).map (·.1)).length := (List.mergeSort_perm _ _).length_eq
      simp only [List.length_nil, this, PySem.sizeLine_eq]
      omega)
  have e0 : keysP [] = [] := rfl
  have e1 : valsP [] = [] := rfl
  rw [e0, e1] at hturn
  show (evS Φ (.seq (.o1 .sortedI (.var 2))) _ _).bind _ = _
  rw [hsrc]
  simp only [Res.bind]
  rw [hturn]
  simp only [calm, boxIf, cont, Option.map_some, optR, List.nil_append]
  rfl
theorem says_init (Φ : Nat → List Arg → LR) (fuel n i j : Nat) (hi : Φ i = F_ispair) (hj : Φ j = F_plus) : ∀ as, Says (runB Φ fuel (B_init n i j) 6 (numA 0 as) (boxesA as)) (boxesA as).length (F_init as) := dec_says fun ⟨ps, b⟩ h => by
  have h : Tame ps := h
  obtain ⟨a', b', hl, _⟩ := loop_gat Φ fuel j hj (prP b ps) none ps [] 0 none none ⟨Nat.le_refl _, fun x hx => by cases hx⟩ (by have := h.len; omega) h.gr
  have hl : forO (fun x ρ S => match setTg (.tp [3, 4]) x ρ with
      | some ρ => exs Φ fuel (B_gat j) ρ S
      | none => .bad) (ps.map pairP) (ρI (prP b ps) none none none) (SI []) = .next (ρI (prP b ps) a' b' none) (SI (gather ps)) := hl
  refine ⟨[some (insO ps), some (.dk (keysP (gather ps)) (valsP (gather ps)))], ?_, rfl, rfl⟩
  show (match exs Φ fuel (B_init n i j) [some (.box 0), some (.p (prP b ps)), none, none, none, none] [some (.ins 0 [] [])] with
    | .next _ S => Res.ok (D.p .non) S
    | .ret d S => .ok d S
    | .rse _ c ns vs S => .rse c ns vs S
    | .bad => .bad) = _
  have il : prim1 (.isA n [.lst, .tup]) (prP b ps) = some (.bl true) := by cases b <;> rfl
  have s1 : ex Φ fuel (.iff (.or (.not (.tr (.o1 (.isA n [.lst, .tup]) (.var 1)))) (.not (.tr (.o1 .all (.lc false [5] (.call true i [] (.cons (.var 5) .nil)) (.nm 5) (.seq (.var 1)) .tt))))) (.cons .bad .nil) .nil) [some (.box 0), some (.p (prP b ps)), none, none, none, none] [some (.ins 0 [] [])] = .next [some (.box 0), some (.p (prP b ps)), none, none, none, none] [some (.ins 0 [] [])] := by
    have ap := all_pairs Φ i hi b h [some (.ins 0 [] [])]
    have t1 : evT Φ (.tr (.o1 (.isA n [.lst, .tup]) (.var 1))) [some (.box 0), some (.p (prP b ps)), none, none, none, none] [some (.ins 0 [] [])] = .ok true [some (.ins 0 [] [])] := by
      simp only [evT, ev, List.getElem?_cons_succ, List.getElem?_cons_zero, Res.bind, view, Option.bind_some, il, Option.map_some, optR, truth]
    have t2 : evT Φ (.tr (.o1 .all (.lc false [5] (.call true i [] (.cons (.var 5) .nil)) (.nm 5) (.seq (.var 1)) .tt))) [some (.box 0), some (.p (prP b ps)), none, none, none, none] [some (.ins 0 [] [])] = .ok true [some (.ins 0 [] [])] := by
      show (ev Φ _ _ _).bind _ = _
      rw [ap]
      simp only [Res.bind, view, Option.bind_some, truth, optR]
    show ((((evT Φ (.tr (.o1 (.isA n [.lst, .tup]) (.var 1))) _ _).bind fun b S => .ok (!b) S).bind fun b S => if b then .ok true S else (evT Φ (.tr (.o1 .all _)) _ S).bind fun b S => .ok (!b) S)).out _ _ = _
    rw [t1]
    simp only [Res.bind, Bool.not_true, Bool.false_eq_true, if_false]
    rw [t2]
    simp only [Res.bind, Bool.not_true, Res.out, Bool.false_eq_true, if_false, exs_nil]
  have s2 : ex Φ fuel (.set (.nm 2) .dnew) [some (.box 0), some (.p (prP b ps)), none, none, none, none] [some (.ins 0 [] [])] = .next (ρI (prP b ps) none none none) (SI []) := rfl
  have s3 : ex Φ fuel (.for_ (.tp [3, 4]) (.seq (.var 1)) (B_gat j)) (ρI (prP b ps) none none none) (SI []) = .next (ρI (prP b ps) a' b' none) (SI (gather ps)) := by
    show (evS Φ (.seq (.var 1)) _ _).out _ _ = _
    rw [seq_pr b ps Φ rfl]
    exact hl
  have s4 : ex Φ fuel (.fset 0 "shares" (.var 0) dcE) (ρI (prP b ps) a' b' none) (SI (gather ps)) = .next (ρI (prP b ps) a' b' none) [some (insO ps), some (.dk (keysP (gather ps)) (valsP (gather ps)))] := by
    show (ev Φ dcE _ _).out _ _ = _
    rw [run_dc Φ _ _ _ h]
    rfl
  rw [B_init, exs_cons, s1]
  dsimp only [Out.andThen]
  rw [exs_cons, s2]
  dsimp only [Out.andThen]
  rw [exs_cons, s3]
  dsimp only [Out.andThen]
  rw [exs_cons, s4]
  rfl
/-- Row(..) made -/
theorem mk_row {ps : PL} (b : Bool) (h : Tame ps) (S : Sto) : mkF true 0 F_init [prP b ps] S = .ok (.p (rowP (norm ps))) S := by
  unfold mkF
  show (match F_init [.o (.ins 0 [] []), .p (prP b ps)] with
    | .ok (.p .non) [o] => if o.pure then boxIf (!true) o S else .bad
    | .rse c xs vs [o] => if o.pure then .rse c xs vs S else .bad
    | _ => .bad) = _
  rw [F_init_eq b h]
  rfl
end PD
/-! Row's methods. -/
namespace PD
open PySem (sizeLine)
theorem items_dk (r : PL) : prim1 .itemsL (dkP r) = some (.lst (r.map pairP)) := by
  show some (P.lst (((keysP r).zip (valsP r)).map fun kv => .tup [ofKey kv.1, kv.2])) = _
  unfold keysP valsP
  rw [List.zip_map']
  simp [pairP, ofKey, Function.comp_def]
theorem fld_row (S : Sto) (r : PL) : fieldOf S "shares" (.p (rowP r)) = some (.p (dkP r)) := rfl
theorem ins_row (S : Sto) (r : PL) : isIns 0 S (.p (rowP r)) = true := rfl
theorem na_pairs (S : Sto) (r : PL) : noAttr S "pairs" (.p (rowP r)) = true := by
  show (!hasK ["shares"] "pairs") = true
  decide
theorem na_cut (S : Sto) (r : PL) : noAttr S "cut" (.p (rowP r)) = true := by
  show (!hasK ["shares"] "cut") = true
  decide
theorem na_total (S : Sto) (r : PL) : noAttr S "total" (.p (rowP r)) = true := by
  show (!hasK ["shares"] "total") = true
  decide
theorem view_p (S : Sto) (x : P) : view S (.p x) = some x := rfl
theorem isa_row (r : PL) : prim1 (.isA 1 [.cls 0]) (rowP r) = some (.bl true) := rfl
/-! pairs -/
def B_pairs : IB := (.cons (.ret true (.o1 .itemsL (.fld 0 "shares" (.var 0))))
      .nil)
noncomputable def F_pairs : List Arg → LR := dec (α := PL) (fun r => [.p (rowP r)]) (fun _ => True) (fun r => .ok (.p (.lst (r.map pairP))) [])
theorem F_pairs_eq (r : PL) : F_pairs [.p (rowP r)] = .ok (.p (.lst (r.map pairP))) [] := dec_eq (a := r) (fun a b h => rowP_inj (by simpa using h)) trivial
theorem says_pairs (Φ : Nat → List Arg → LR) (fuel : Nat) : ∀ as, Says (runB Φ fuel B_pairs 1 (numA 0 as) (boxesA as)) (boxesA as).length (F_pairs as) := dec_says fun r _ => by
  refine ⟨[], ?_, rfl, rfl⟩
  simp [B_pairs, runB, exs, ex, ev, Res.bind, Res.out, Out.andThen, optR, view_p, numA, boxesA, frz, ins_row, fld_row, items_dk]
theorem pairs_1 (r : PL) (S : Sto) : callA F_pairs [D.p (rowP r)] S = .ok (.p (.lst (r.map pairP))) S := callA_1 (F_pairs_eq r)
/-- x.pairs() -/
theorem ev_pairs {Φ : Nat → List Arg → LR} {i v : Nat} (hi : Φ i = F_pairs) {ρ : List (Option D)} {S : Sto} {r : PL} (h : ρ[v]? = some (some (.p (rowP r)))) : ev Φ (.meth true 0 "pairs" i (.cons (.var v) .nil)) ρ S = .ok (.p (.lst (r.map pairP))) S := by
  simp [ev, evL, h, Res.bind, ins_row, na_pairs, frz, frzL, hi, pairs_1]
/-! two rows -/
noncomputable def F_rr (g : PL → PL → LR) (dom : PL → PL → Prop) : List Arg → LR := dec (α := PL × PL) (fun x => [.p (rowP x.1), .p (rowP x.2)]) (fun x => dom x.1 x.2) (fun x => g x.1 x.2)
theorem F_rr_eq {g : PL → PL → LR} {dom : PL → PL → Prop} {r s : PL} (h : dom r s) : F_rr g dom [.p (rowP r), .p (rowP s)] = g r s := dec_eq (a := (r, s)) (fun a b h => by
    simp only [List.cons.injEq, Arg.p.injEq, and_true] at h
    exact Prod.ext (rowP_inj h.1) (rowP_inj h.2)) h
theorem rr_says {g : PL → PL → LR} {dom : PL → PL → Prop} {r : List Arg → Res D} {k : List Arg → Nat} (h : ∀ p q, dom p q → Says (r [.p (rowP p), .p (rowP q)]) (k [.p (rowP p), .p (rowP q)]) (g p q)) (as : List Arg) : Says (r as) (k as) (F_rr g dom as) := dec_says (fun x hx => h x.1 x.2 hx) as
/-! a row and a tick -/
noncomputable def F_rt (g : PL → Int → LR) (dom : PL → Int → Prop) : List Arg → LR := dec (α := PL × Int) (fun x => [.p (rowP x.1), .p (.int x.2)]) (fun x => dom x.1 x.2) (fun x => g x.1 x.2)
theorem F_rt_eq {g : PL → Int → LR} {dom : PL → Int → Prop} {r : PL} {t : Int} (h : dom r t) : F_rt g dom [.p (rowP r), .p (.int t)] = g r t := dec_eq (a := (r, t)) (fun a b h => by
    simp only [List.cons.injEq, Arg.p.injEq, P.int.injEq, and_true] at h
    exact Prod.ext (rowP_inj h.1) h.2) h
theorem rt_says {g : PL → Int → LR} {dom : PL → Int → Prop} {r : List Arg → Res D} {k : List Arg → Nat} (h : ∀ p q, dom p q → Says (r [.p (rowP p), .p (.int q)]) (k [.p (rowP p), .p (.int q)]) (g p q)) (as : List Arg) : Says (r as) (k as) (F_rt g dom as) := dec_says (fun x hx => h x.1 x.2 hx) as
/-! + -/
def B_radd (n i j : Nat) : IB := (.cons (.iff (.not (.tr (.o1 (.isA n [(.cls 0)]) (.var 1))))
      (.cons .bad
      .nil)
      .nil)
      (.cons (.ret true (.mk true 0 j [] (.cons (.o2 .add (.meth true 0 "pairs" i (.cons (.var 0) .nil)) (.meth true 0 "pairs" i (.cons (.var 1) .nil))) .nil)))
      .nil))
noncomputable def F_radd : List Arg → LR := F_rr (fun r s => .ok (.p (rowP (norm (r ++ s)))) []) (fun r s => Tame (r ++ s))
theorem says_radd (Φ : Nat → List Arg → LR) (fuel i j : Nat) (hi : Φ i = F_pairs) (hj : Φ j = F_init) : ∀ as, Says (runB Φ fuel (B_radd 1 i j) 2 (numA 0 as) (boxesA as)) (boxesA as).length (F_radd as) := rr_says fun r s h => by
  refine ⟨[], ?_, rfl, rfl⟩
  have p0 : ∀ S, ev Φ (.meth true 0 "pairs" i (.cons (.var 0) .nil)) [some (.p (rowP r)), some (.p (rowP s))] S = .ok (.p (.lst (r.map pairP))) S := fun S => ev_pairs hi rfl
  have p1 : ∀ S, ev Φ (.meth true 0 "pairs" i (.cons (.var 1) .nil)) [some (.p (rowP r)), some (.p (rowP s))] S = .ok (.p (.lst (s.map pairP))) S := fun S => ev_pairs hi rfl
  have ad : prim2 .add (.lst (r.map pairP)) (.lst (s.map pairP)) = some (.lst ((r ++ s).map pairP)) := by
    show (if _ then some (P.lst _) else none) = _
    rw [if_pos (by have := h.len; rw [List.length_append] at this; simp [PySem.sizeLine_eq]; omega), List.map_append]
  have e1 : ev Φ (.o2 .add (.meth true 0 "pairs" i (.cons (.var 0) .nil)) (.meth true 0 "pairs" i (.cons (.var 1) .nil))) [some (.p (rowP r)), some (.p (rowP s))] [] = .ok (.p (.lst ((r ++ s).map pairP))) [] := by
    show (ev Φ (.meth true 0 "pairs" i (.cons (.var 0) .nil)) _ _).bind _ = _
    rw [p0]
    simp only [Res.bind]
    rw [p1]
    simp only [Res.bind, view_p, Option.bind_some, ad, Option.map_some, optR]
  have e2 : ev Φ (.mk true 0 j [] (.cons (.o2 .add (.meth true 0 "pairs" i (.cons (.var 0) .nil)) (.meth true 0 "pairs" i (.cons (.var 1) .nil))) .nil)) [some (.p (rowP r)), some (.p (rowP s))] [] = .ok (.p (rowP (norm (r ++ s)))) [] := by
    show (((ev Φ (.o2 .add (.meth true 0 "pairs" i (.cons (.var 0) .nil)) (.meth true 0 "pairs" i (.cons (.var 1) .nil))) _ _).bind _).bind _) = _
    rw [e1]
    simp only [Res.bind, evL, frzL, frz, hj, List.append_nil]
    exact mk_row true h []
  have s1 : ex Φ fuel (.iff (.not (.tr (.o1 (.isA 1 [(.cls 0)]) (.var 1)))) (.cons .bad .nil) .nil) [some (.p (rowP r)), some (.p (rowP s))] [] = .next [some (.p (rowP r)), some (.p (rowP s))] [] := by
    simp [ex, evT, ev, Res.bind, Res.out, optR, view_p, isa_row, truth, exs]
  have s2 : ex Φ fuel (.ret true (.mk true 0 j [] (.cons (.o2 .add (.meth true 0 "pairs" i (.cons (.var 0) .nil)) (.meth true 0 "pairs" i (.cons (.var 1) .nil))) .nil))) [some (.p (rowP r)), some (.p (rowP s))] [] = .ret (.p (rowP (norm (r ++ s)))) [] := by
    show (ev Φ _ _ _).out _ _ = _
    rw [e2]
    rfl
  show (match exs Φ fuel (B_radd 1 i j) [some (.p (rowP r)), some (.p (rowP s))] [] with
    | .next _ S => Res.ok (D.p .non) S
    | .ret d S => .ok d S
    | .rse _ c ns vs S => .rse c ns vs S
    | .bad => .bad) = _
  rw [B_radd, exs_cons, s1]
  dsimp only [Out.andThen]
  rw [exs_cons, s2]
  rfl
theorem radd_2 {r s : PL} (h : Tame (r ++ s)) (S : Sto) : callA F_radd [D.p (rowP r), D.p (rowP s)] S = .ok (.p (rowP (norm (r ++ s)))) S := callA_2 (F_rr_eq (dom := fun r s => Tame (r ++ s)) h)
end PD
/-! Row's methods: the others. -/
namespace PD
open PySem (sizeLine)
theorem runB_ret {Φ : Nat → List Arg → LR} {fuel : Nat} {b : IB} {n : Nat} {ds : List D} {S S' : Sto} {d : D} (h : exs Φ fuel b (ds.map some ++ List.replicate (n - ds.length) none) S = .ret d S') : runB Φ fuel b n ds S = .ok d S' := by
  unfold runB
  rw [h]
theorem turns_fm {α : Type} {step : P → Sto → Res (Option P)} {f : α → P} {g : α → Option P} : ∀ {items : List α} {acc : List P} {S : Sto}, (∀ x ∈ items, step (f x) S = .ok (g x) S) → acc.length + items.length ≤ PySem.sizeLine → turns step (items.map f) acc S = .ok (acc ++ items.filterMap g) S
  | [], acc, S, _, _ => by simp [turns]
  | x :: items, acc, S, h, hl => by
    rw [List.length_cons] at hl
    rw [List.map_cons, turns, h x List.mem_cons_self]
    simp only [Res.bind]
    cases e : g x with
    | none =>
      dsimp only
      rw [turns_fm (fun y hy => h y (List.mem_cons_of_mem _ hy)) (by omega), List.filterMap_cons_none e]
    | some y =>
      dsimp only
      rw [if_pos (by omega), turns_fm (fun y hy => h y (List.mem_cons_of_mem _ hy)) (by simp; omega), List.filterMap_cons_some e]
      simp
theorem two_le : 2 ≤ sizeLine := by simp [PySem.sizeLine_eq]
/-- (a, b) -/
theorem ev_two {Φ : Nat → List Arg → LR} {a b : IE} {ρ : List (Option D)} {S : Sto} {x y : P} (ha : ev Φ a ρ S = .ok (.p x) S) (hb : ev Φ b ρ S = .ok (.p y) S) : ev Φ (.tup (.cons a (.cons b .nil))) ρ S = .ok (.p (.tup [x, y])) S := by
  show (((ev Φ a ρ S).bind _).bind _) = _
  rw [ha]
  simp only [Res.bind, evL]
  rw [hb]
  simp only [Res.bind, frzL, frz]
  exact if_pos two_le
/-- a + b of ints -/
theorem ev_addi {Φ : Nat → List Arg → LR} {a b : IE} {ρ : List (Option D)} {S : Sto} {x y : Int} (ha : ev Φ a ρ S = .ok (.p (.int x)) S) (hb : ev Φ b ρ S = .ok (.p (.int y)) S) : ev Φ (.o2 .add a b) ρ S = .ok (.p (.int (x + y))) S := by
  show (ev Φ a ρ S).bind _ = _
  rw [ha]
  simp only [Res.bind]
  rw [hb]
  rfl
theorem ev_var {Φ : Nat → List Arg → LR} {i : Nat} {ρ : List (Option D)} {S : Sto} {d : D} (h : ρ[i]? = some (some d)) : ev Φ (.var i) ρ S = .ok d S := by simp [ev, h]
/-- a comprehension over x.pairs() -/
theorem ev_lcp {Φ : Nat → List Arg → LR} {i v : Nat} (hi : Φ i = F_pairs) {ρ : List (Option D)} {S : Sto} {r : PL} (h : ρ[v]? = some (some (.p (rowP r)))) {own : List Nat} {elt : IE} {tg : Tg} {cond : IT} {g : Int × Rat → Option P}
    (hs : ∀ x ∈ r, stepL own tg (evT Φ cond) (ev Φ elt) ρ (pairP x) S = .ok (g x) S) (hl : r.length ≤ 1000) :
    ev Φ (.lc false own elt tg (.seq (.meth true 0 "pairs" i (.cons (.var v) .nil))) cond) ρ S = .ok (.p (.lst (r.filterMap g))) S := by
  have hsrc : evS Φ (.seq (.meth true 0 "pairs" i (.cons (.var v) .nil))) ρ S = .ok (r.map pairP) S := by
    show (ev Φ _ ρ S).bind _ = _
    rw [ev_pairs hi h]
    rfl
  show (evS Φ (.seq (.meth true 0 "pairs" i (.cons (.var v) .nil))) ρ S).bind _ = _
  rw [hsrc]
  simp only [Res.bind]
  rw [turns_fm hs (by simp [PySem.sizeLine_eq]; omega)]
  simp [calm, boxIf, cont, optR]
theorem fm_map {α β : Type} (f : α → β) (l : List α) : l.filterMap (fun x => some (f x)) = l.map f := by
  induction l with
  | nil => rfl
  | cons a l ih => rw [List.filterMap_cons_some (f := fun x => some (f x)) (b := f a) rfl, ih, List.map_cons]
/-- Row(e) -/
theorem ev_mkrow {Φ : Nat → List Arg → LR} {j : Nat} (hj : Φ j = F_init) {e : IE} {ρ : List (Option D)} {S S' : Sto} {ps : PL} (b : Bool) (h : ev Φ e ρ S = .ok (.p (prP b ps)) S') (ht : Tame ps) : ev Φ (.mk true 0 j [] (.cons e .nil)) ρ S = .ok (.p (rowP (norm ps))) S' := by
  show (((ev Φ e ρ S).bind _).bind _) = _
  rw [h]
  simp only [Res.bind, evL, frzL, frz, hj, List.append_nil]
  exact mk_row b ht S'
theorem chkt_1 {t : Int} (h : 0 ≤ t) (S : Sto) : callA F_chkt [D.p (.int t)] S = .ok (.p .non) S := callA_1 (F_chkt_eq h)
theorem ex_chkt {Φ : Nat → List Arg → LR} {fuel k v : Nat} (hk : Φ k = F_chkt) {ρ : List (Option D)} {S : Sto} {t : Int} (h : 0 ≤ t) (hv : ρ[v]? = some (some (.p (.int t)))) : ex Φ fuel (.ex (.call true k [] (.cons (.var v) .nil))) ρ S = .next ρ S := by
  simp [ex, ev, evL, hv, Res.bind, Res.out, frzL, frz, hk, chkt_1 h]
/-! moved -/
def B_moved (k i j : Nat) : IB := (.cons (.ex (.call true k [] (.cons (.var 1) .nil)))
      (.cons (.ret true (.mk true 0 j [] (.cons (.lc false [2, 3] (.tup (.cons (.o2 .add (.var 2) (.var 1)) (.cons (.var 3) .nil))) (.tp [2, 3]) (.seq (.meth true 0 "pairs" i (.cons (.var 0) .nil))) .tt) .nil)))
      .nil))
def moveL (r : PL) (t : Int) : PL := r.map fun x => (x.1 + t, x.2)
noncomputable def F_moved : List Arg → LR := F_rt (fun r t => .ok (.p (rowP (norm (moveL r t)))) []) (fun r t => 0 ≤ t ∧ Tame (moveL r t))
theorem says_moved (Φ : Nat → List Arg → LR) (fuel k i j : Nat) (hk : Φ k = F_chkt) (hi : Φ i = F_pairs) (hj : Φ j = F_init) : ∀ as, Says (runB Φ fuel (B_moved k i j) 4 (numA 0 as) (boxesA as)) (boxesA as).length (F_moved as) := rt_says fun r t h => by
  refine ⟨[], runB_ret ?_, rfl, rfl⟩
  show exs Φ fuel (B_moved k i j) [some (.p (rowP r)), some (.p (.int t)), none, none] [] = _
  have e1 := ev_lcp (Φ := Φ) (i := i) (v := 0) hi (ρ := [some (.p (rowP r)), some (.p (.int t)), none, none]) (S := []) (r := r) rfl (own := [2, 3]) (elt := .tup (.cons (.o2 .add (.var 2) (.var 1)) (.cons (.var 3) .nil))) (tg := .tp [2, 3]) (cond := .tt) (g := fun x => some (pairP (x.1 + t, x.2))) (fun x _ => by
    have e : setTg (.tp [2, 3]) (pairP x) (wipeR [some (.p (rowP r)), some (.p (.int t)), none, none] [2, 3]) = some [some (.p (rowP r)), some (.p (.int t)), some (.p (.int x.1)), some (.p (fr x.2))] := rfl
    unfold stepL
    rw [e]
    simp only [evT, Res.bind, if_true]
    rw [ev_two (x := .int (x.1 + t)) (y := fr x.2) (ev_addi (ev_var rfl) (ev_var rfl)) (ev_var rfl)]
    rfl) (by have := h.2.len; unfold moveL at this; rw [List.length_map] at this; omega)
  rw [fm_map, show (r.map fun x => pairP (x.1 + t, x.2)) = (moveL r t).map pairP by simp [moveL]] at e1
  rw [B_moved, exs_cons, ex_chkt hk h.1 rfl]
  dsimp only [Out.andThen]
  rw [exs_cons]
  show ((ev Φ _ _ _).out _ _).andThen _ = _
  rw [ev_mkrow hj true e1 h.2]
  rfl
/-! cut -/
def B_cut (k i j : Nat) : IB := (.cons (.ex (.call true k [] (.cons (.var 1) .nil)))
      (.cons (.ret true (.mk true 0 j [] (.cons (.lc false [2, 3] (.tup (.cons (.var 2) (.cons (.var 3) .nil))) (.tp [2, 3]) (.seq (.meth true 0 "pairs" i (.cons (.var 0) .nil))) (.tr (.o2 .le (.var 2) (.var 1)))) .nil)))
      .nil))
def cutL (r : PL) (t : Int) : PL := r.filter fun x => decide (x.1 ≤ t)
noncomputable def F_cut : List Arg → LR := F_rt (fun r t => .ok (.p (rowP (norm (cutL r t)))) []) (fun r t => 0 ≤ t ∧ Tame r)
theorem Tame.sub {r s : PL} (h : Tame r) (hl : s.length ≤ r.length) (hs : ∀ x ∈ s, x ∈ r) : Tame s := ⟨Nat.le_trans hl h.len, fun x hx => h.tk x (hs x hx), fun x hx => h.gr x (hs x hx)⟩
theorem fm_filter {α : Type} (f : α → P) (c : α → Bool) (l : List α) : l.filterMap (fun x => if c x then some (f x) else none) = (l.filter c).map f := by
  induction l with
  | nil => rfl
  | cons a l ih =>
    cases e : c a with
    | true => rw [List.filterMap_cons_some (b := f a) (by simp [e]), ih, List.filter_cons_of_pos e, List.map_cons]
    | false => rw [List.filterMap_cons_none (by simp [e]), ih, List.filter_cons_of_neg (by simp [e])]
theorem says_cut (Φ : Nat → List Arg → LR) (fuel k i j : Nat) (hk : Φ k = F_chkt) (hi : Φ i = F_pairs) (hj : Φ j = F_init) : ∀ as, Says (runB Φ fuel (B_cut k i j) 4 (numA 0 as) (boxesA as)) (boxesA as).length (F_cut as) := rt_says fun r t h => by
  refine ⟨[], runB_ret ?_, rfl, rfl⟩
  show exs Φ fuel (B_cut k i j) [some (.p (rowP r)), some (.p (.int t)), none, none] [] = _
  have e1 := ev_lcp (Φ := Φ) (i := i) (v := 0) hi (ρ := [some (.p (rowP r)), some (.p (.int t)), none, none]) (S := []) (r := r) rfl (own := [2, 3]) (elt := .tup (.cons (.var 2) (.cons (.var 3) .nil))) (tg := .tp [2, 3]) (cond := .tr (.o2 .le (.var 2) (.var 1))) (g := fun x => if decide (x.1 ≤ t) then some (pairP x) else none) (fun x _ => by
    have e : setTg (.tp [2, 3]) (pairP x) (wipeR [some (.p (rowP r)), some (.p (.int t)), none, none] [2, 3]) = some [some (.p (rowP r)), some (.p (.int t)), some (.p (.int x.1)), some (.p (fr x.2))] := rfl
    unfold stepL
    rw [e]
    have c : evT Φ (.tr (.o2 .le (.var 2) (.var 1))) [some (.p (rowP r)), some (.p (.int t)), some (.p (.int x.1)), some (.p (fr x.2))] [] = .ok (decide (x.1 ≤ t)) [] := rfl
    dsimp only
    rw [c]
    simp only [Res.bind]
    rw [ev_two (x := .int x.1) (y := fr x.2) (ev_var rfl) (ev_var rfl)]
    cases decide (x.1 ≤ t) <;> rfl) (by have := h.2.len; omega)
  rw [fm_filter pairP (fun x => decide (x.1 ≤ t))] at e1
  rw [B_cut, exs_cons, ex_chkt hk h.1 rfl]
  dsimp only [Out.andThen]
  rw [exs_cons]
  show ((ev Φ _ _ _).out _ _).andThen _ = _
  rw [ev_mkrow hj true (ps := cutL r t) e1 (h.2.sub (List.length_filter_le _ _) fun x hx => (List.mem_filter.mp hx).1)]
  rfl
/-! at -/
def B_at (k : Nat) : IB := (.cons (.ex (.call true k [] (.cons (.var 1) .nil)))
      (.cons (.ret true (.get (.fld 0 "shares" (.var 0)) (.var 1) (.tup (.cons (.cst (.int 0)) (.cons (.cst (.int 1)) .nil)))))
      .nil))
noncomputable def F_at : List Arg → LR := F_rt (fun r t => .ok (.p (fr (getQ r t))) []) (fun _ t => 0 ≤ t)
theorem look_row (r : PL) (t : Int) : (look (keysP r) (valsP r) (.inl t : L2.Key)).getD (.tup [.int 0, .int 1]) = fr (getQ r t) := by
  rw [look_acc]
  unfold getQ
  cases r.lookup t <;> rfl
theorem says_at (Φ : Nat → List Arg → LR) (fuel k : Nat) (hk : Φ k = F_chkt) : ∀ as, Says (runB Φ fuel (B_at k) 2 (numA 0 as) (boxesA as)) (boxesA as).length (F_at as) := rt_says fun r t h => by
  refine ⟨[], runB_ret ?_, rfl, rfl⟩
  show exs Φ fuel (B_at k) [some (.p (rowP r)), some (.p (.int t))] [] = _
  have g : getP (dkP r) (.int t) (.tup [.int 0, .int 1]) = some (fr (getQ r t)) := by
    show some _ = _
    rw [← look_row]
  have e : ev Φ (.get (.fld 0 "shares" (.var 0)) (.var 1) (.tup (.cons (.cst (.int 0)) (.cons (.cst (.int 1)) .nil)))) [some (.p (rowP r)), some (.p (.int t))] [] = .ok (.p (fr (getQ r t))) [] := by
    have is : isDict (dkP r) = true := rfl
    simp [ev, evL, Res.bind, frzL, frz, ins_row, fld_row, optR, view_p, is, g, two_le]
  rw [B_at, exs_cons, ex_chkt hk h rfl]
  dsimp only [Out.andThen]
  rw [exs_cons]
  simp only [ex, e, Res.out, frz, if_true, Out.andThen]
/-! total -/
def B_tot (i p : Nat) : IB := (.cons (.set (.nm 1) (.tup (.cons (.cst (.int 0)) (.cons (.cst (.int 1)) .nil))))
      (.cons (.for_ (.tp [2, 3]) (.seq (.meth true 0 "pairs" i (.cons (.var 0) .nil)))
      (.cons (.set (.nm 1) (.call true p [] (.cons (.var 1) (.cons (.var 3) .nil))))
      .nil))
      (.cons (.ret true (.var 1))
      .nil)))
def totQ (r : PL) : Rat := pairW r fun _ => 1
noncomputable def F_tot : List Arg → LR := dec (α := PL) (fun r => [.p (rowP r)]) Tame (fun r => .ok (.p (fr (totQ r))) [])
theorem F_tot_eq {r : PL} (h : Tame r) : F_tot [.p (rowP r)] = .ok (.p (fr (totQ r))) [] := dec_eq (a := r) (fun a b h => rowP_inj (by simpa using h)) h
/-- the loop of a sum -/
theorem loop_tot (Φ : Nat → List Arg → LR) (fuel p : Nat) (hp : Φ p = F_plus) (d : Option D) (S : Sto) : ∀ (r : PL) (n : Nat) (q : Rat) (a b : Option D), Gr DD (n * VV) q → n + r.length ≤ 1000 → (∀ x ∈ r, Gr DD VV x.2) → ∃ a' b', forO (fun x ρ S => match setTg (.tp [2, 3]) x ρ with
      | some ρ => exs Φ fuel (.cons (.set (.nm 1) (.call true p [] (.cons (.var 1) (.cons (.var 3) .nil)))) .nil) ρ S
      | none => .bad) (r.map pairP) [d, some (.p (fr q)), a, b] S = .next [d, some (.p (fr (q + totQ r))), a', b'] S := by
  intro r
  induction r with
  | nil =>
    intro n q a b _ _ _
    exact ⟨a, b, by simp [forO, totQ, pw_nil, Rat.add_zero]⟩
  | cons x r ih =>
    intro n q a b h hl hg
    rw [List.length_cons] at hl
    have gx := hg x List.mem_cons_self
    have h' : Gr DD ((n + 1) * VV) (q + x.2) := by
      rw [Nat.add_mul, Nat.one_mul]
      exact h.add (by decide) gx
    have sq : sm q := sm_gr (h.mono (Nat.mul_le_mul_right _ (by omega)))
    have sx : sm x.2 := sm_gr (gx.mono (by decide))
    obtain ⟨a', b', e⟩ := ih (n + 1) (q + x.2) (some (.p (.int x.1))) (some (.p (fr x.2))) h' (by omega) fun y hy => hg y (List.mem_cons_of_mem _ hy)
    refine ⟨a', b', ?_⟩
    rw [List.map_cons, forO]
    have e1 : setTg (.tp [2, 3]) (pairP x) [d, some (.p (fr q)), a, b] = some [d, some (.p (fr q)), some (.p (.int x.1)), some (.p (fr x.2))] := rfl
    rw [e1]
    have e2 : ev Φ (.call true p [] (.cons (.var 1) (.cons (.var 3) .nil))) [d, some (.p (fr q)), some (.p (.int x.1)), some (.p (fr x.2))] S = .ok (.p (fr (q + x.2))) S := by
      simp [ev, evL, Res.bind, frzL, frz, hp, plus_2 sq sx]
    dsimp only
    rw [exs_cons]
    show ((((ev Φ (.call true p [] (.cons (.var 1) (.cons (.var 3) .nil))) _ _).out _ _).andThen _).andThen _) = _
    rw [e2]
    show forO _ (r.map pairP) [d, some (.p (fr (q + x.2))), some (.p (.int x.1)), some (.p (fr x.2))] S = _
    rw [e, show q + totQ (x :: r) = q + x.2 + totQ r by unfold totQ; rw [pw_cons, Rat.mul_one, Rat.add_assoc]]
theorem says_tot (Φ : Nat → List Arg → LR) (fuel i p : Nat) (hi : Φ i = F_pairs) (hp : Φ p = F_plus) : ∀ as, Says (runB Φ fuel (B_tot i p) 4 (numA 0 as) (boxesA as)) (boxesA as).length (F_tot as) := dec_says fun r h => by
  refine ⟨[], runB_ret ?_, rfl, rfl⟩
  show exs Φ fuel (B_tot i p) [some (.p (rowP r)), none, none, none] [] = _
  obtain ⟨a', b', e⟩ := loop_tot Φ fuel p hp (some (.p (rowP r))) [] r 0 0 none none (by rw [Nat.zero_mul]; exact Gr.zero _ _) (by have := h.len; omega) h.gr
  rw [Rat.zero_add] at e
  rw [B_tot, exs_cons]
  have s1 : ex Φ fuel (.set (.nm 1) (.tup (.cons (.cst (.int 0)) (.cons (.cst (.int 1)) .nil)))) [some (.p (rowP r)), none, none, none] [] = .next [some (.p (rowP r)), some (.p (fr 0)), none, none] [] := by
    simp only [ex]
    rw [ev_two (x := .int 0) (y := .int 1) rfl rfl]
    rfl
  rw [s1]
  dsimp only [Out.andThen]
  rw [exs_cons]
  have hsrc : evS Φ (.seq (.meth true 0 "pairs" i (.cons (.var 0) .nil))) [some (.p (rowP r)), some (.p (fr 0)), none, none] [] = .ok (r.map pairP) [] := by
    show (ev Φ _ _ _).bind _ = _
    rw [ev_pairs hi rfl]
    rfl
  show (((evS Φ (.seq (.meth true 0 "pairs" i (.cons (.var 0) .nil))) _ _).out _ _).andThen _) = _
  rw [hsrc]
  dsimp only [Res.out]
  exact (congrArg (fun o => Out.andThen o fun ρ S => exs Φ fuel (.cons (.ret true (.var 1)) .nil) ρ S) e).trans rfl
end PD
/-! Row's methods: up_to, len, in, ==. -/
namespace PD
open PySem (sizeLine PyData)
/-! up_to -/
def B_upto (t c : Nat) : IB := (.cons (.ret true (.meth true 0 "total" t (.cons (.meth true 0 "cut" c (.cons (.var 0) (.cons (.var 1) .nil))) .nil)))
      .nil)
noncomputable def F_upto : List Arg → LR := F_rt (fun r t => .ok (.p (fr (totQ (norm (cutL r t))))) []) (fun r t => (0 ≤ t ∧ Tame r) ∧ Tame (norm (cutL r t)))
theorem cut_2 {r : PL} {t : Int} (h : 0 ≤ t ∧ Tame r) (S : Sto) : callA F_cut [D.p (rowP r), D.p (.int t)] S = .ok (.p (rowP (norm (cutL r t)))) S := callA_2 (F_rt_eq (dom := fun r t => 0 ≤ t ∧ Tame r) h)
theorem tot_1 {r : PL} (h : Tame r) (S : Sto) : callA F_tot [D.p (rowP r)] S = .ok (.p (fr (totQ r))) S := callA_1 (F_tot_eq h)
theorem says_upto (Φ : Nat → List Arg → LR) (fuel t c : Nat) (ht : Φ t = F_tot) (hc : Φ c = F_cut) : ∀ as, Says (runB Φ fuel (B_upto t c) 2 (numA 0 as) (boxesA as)) (boxesA as).length (F_upto as) := rt_says fun r u h => by
  refine ⟨[], ?_, rfl, rfl⟩
  simp [B_upto, runB, exs, ex, ev, evL, Res.bind, Res.out, Out.andThen, numA, boxesA, frz, frzL, ins_row, na_cut, na_total, ht, hc, cut_2 h.1, tot_1 h.2]
/-! len -/
def B_rlen : IB := (.cons (.ret true (.o1 .len (.fld 0 "shares" (.var 0))))
      .nil)
noncomputable def F_rlen : List Arg → LR := dec (α := PL) (fun r => [.p (rowP r)]) (fun _ => True) (fun r => .ok (.p (.int r.length)) [])
theorem F_rlen_eq (r : PL) : F_rlen [.p (rowP r)] = .ok (.p (.int r.length)) [] := dec_eq (a := r) (fun a b h => rowP_inj (by simpa using h)) trivial
theorem len_dk (r : PL) : prim1 .len (dkP r) = some (.int r.length) := by
  show some (P.int ((keysP r).length : Nat)) = _
  rw [len_acc]
theorem says_rlen (Φ : Nat → List Arg → LR) (fuel : Nat) : ∀ as, Says (runB Φ fuel B_rlen 1 (numA 0 as) (boxesA as)) (boxesA as).length (F_rlen as) := dec_says fun r _ => by
  refine ⟨[], ?_, rfl, rfl⟩
  simp [B_rlen, runB, exs, ex, ev, Res.bind, Res.out, Out.andThen, optR, view_p, numA, boxesA, frz, ins_row, fld_row, len_dk]
/-! in -/
def B_rin (i : Nat) : IB := (.cons (.ret true (.and (.call true i [.non] (.cons (.var 1) (.cons (.cst (.int 0)) .nil))) (.o2 .mem (.var 1) (.fld 0 "shares" (.var 0)))))
      .nil)
noncomputable def F_rin : List Arg → LR := F_rt (fun r t => .ok (.p (.bl (decide (t ∈ r.map (·.1))))) []) (fun _ t => 0 ≤ t)
theorem mem_dk (r : PL) (t : Int) : prim2 .mem (.int t) (dkP r) = some (.bl (decide (t ∈ r.map (·.1)))) := by
  have e : hasK (keysP r) (Sum.inl t : L2.Key) = decide (t ∈ r.map (·.1)) := decide_eq_decide.mpr key_acc
  show some (P.bl (hasK (keysP r) (Sum.inl t : L2.Key))) = _
  rw [e]
theorem says_rin (Φ : Nat → List Arg → LR) (fuel i : Nat) (hi : Φ i = F_isint) : ∀ as, Says (runB Φ fuel (B_rin i) 2 (numA 0 as) (boxesA as)) (boxesA as).length (F_rin as) := rt_says fun r t h => by
  refine ⟨[], ?_, rfl, rfl⟩
  have md := mem_dk r t
  generalize decide (t ∈ r.map (·.1)) = b at md ⊢
  simp [B_rin, runB, exs, ex, ev, evL, Res.bind, Res.out, Out.andThen, optR, view_p, numA, boxesA, frz, frzL, ins_row, fld_row, hi, isint_2, h, md]
/-! == -/
def frD (q : Rat) : PyData := .tuple [.int q.num, .int q.den]
theorem data_fr (q : Rat) : dataOf (fr q) = some (frD q) := rfl
theorem eqv_fr (p q : Rat) : PyData.eqv (frD p) (frD q) = decide (p = q) := by
  show (p.num == q.num && ((p.den : Int) == (q.den : Int) && true)) = _
  by_cases c : p = q
  · subst c; simp
  · rw [decide_eq_false c]
    by_cases c1 : p.num = q.num
    · have : ¬ p.den = q.den := fun c2 => c (Rat.ext c1 c2)
      have t2 : ((p.den : Int) == (q.den : Int)) = false := by
        rw [beq_eq_false_iff_ne]
        exact fun z => this (Int.natCast_inj.mp z)
      rw [t2, Bool.false_and, Bool.and_false]
    · rw [beq_eq_false_iff_ne.mpr c1, Bool.false_and]
theorem datas_vals (r : PL) : datas (valsP r) = some (r.map fun x => frD x.2) := by
  induction r with
  | nil => rfl
  | cons x r ih =>
    show (match dataOf (fr x.2), datas (valsP r) with
      | some d, some ds => some (d :: ds)
      | _, _ => none) = _
    rw [data_fr, ih]
    rfl
theorem look_data (acc : PL) (t : Int) : look (keysP acc) (acc.map fun x => frD x.2) (.inl t : L2.Key) = (acc.lookup t).map frD := by
  induction acc with
  | nil => rfl
  | cons x acc ih =>
    show (if (Sum.inl x.1 : L2.Key) = .inl t then some (frD x.2) else look (keysP acc) (acc.map fun x => frD x.2) (.inl t)) = _
    rw [List.lookup_cons]
    by_cases c : t = x.1
    · rw [if_pos (by rw [c]), show (t == x.1) = true by simp [c]]; rfl
    · rw [if_neg (fun z => c (Sum.inl.inj z).symm), show (t == x.1) = false by simpa using c, ih]
theorem dEq_row (s : PL) : ∀ r : PL, dEq (keysP s) (s.map fun x => frD x.2) (keysP r) (r.map fun x => frD x.2) = r.all fun x => decide (s.lookup x.1 = some x.2)
  | [] => rfl
  | x :: r => by
    show (match look (keysP s) (s.map fun y : Int × Rat => frD y.2) (.inl x.1 : L2.Key) with
      | some e => PyData.eqv (frD x.2) e && dEq (keysP s) (s.map fun y : Int × Rat => frD y.2) (keysP r) (r.map fun y : Int × Rat => frD y.2)
      | none => false) = _
    rw [look_data, dEq_row s r, List.all_cons]
    cases e : s.lookup x.1 with
    | none => simp
    | some q =>
      simp only [Option.map_some, eqv_fr]
      congr 1
      exact decide_eq_decide.mpr ⟨fun h => by rw [h], fun h => (Option.some.inj h).symm⟩
theorem Can.nodup {r : PL} (h : Can r) : (r.map (·.1)).Nodup := by
  rw [List.Nodup, List.pairwise_map]
  exact h.asc.imp fun {a b} hab e => by omega
theorem lookup_get {s : PL} {t : Int} {q : Rat} (h : s.lookup t = some q) : getQ s t = q ∧ t ∈ s.map (·.1) := by
  refine ⟨by unfold getQ; rw [h], ?_⟩
  by_cases c : t ∈ s.map (·.1)
  · exact c
  · rw [look_out c] at h
    cases h
theorem eq_rows {r s : PL} (hr : Can r) (hs : Can s) : (r.length == s.length && r.all fun x => decide (s.lookup x.1 = some x.2)) = decide (r = s) := by
  by_cases c : r = s
  · subst c
    rw [decide_eq_true rfl, Bool.and_eq_true]
    refine ⟨by simp, List.all_eq_true.mpr fun x hx => decide_eq_true ?_⟩
    rw [lookup_some hr.nodup (List.mem_map_of_mem hx), get_mem hr.nodup hx]
  · rw [decide_eq_false c, Bool.and_eq_false_iff]
    by_cases cl : r.length = s.length
    · right
      rw [Bool.eq_false_iff]
      intro ha
      rw [List.all_eq_true] at ha
      refine c (can_ext hr hs fun t => ?_)
      have sub : ∀ u ∈ r.map (·.1), u ∈ s.map (·.1) := fun u hu => by
        obtain ⟨x, hx, rfl⟩ := List.mem_map.mp hu
        exact (lookup_get (of_decide_eq_true (ha x hx))).2
      by_cases ct : t ∈ r.map (·.1)
      · obtain ⟨x, hx, rfl⟩ := List.mem_map.mp ct
        rw [← get_at hr.nodup, ← get_at hs.nodup, get_mem hr.nodup hx, (lookup_get (of_decide_eq_true (ha x hx))).1]
      · have cs : t ∉ s.map (·.1) := fun hts => by
          have nd : (t :: r.map (·.1)).Nodup := List.nodup_cons.mpr ⟨ct, hr.nodup⟩
          have := List.Nodup.length_le_of_subset nd (fun u hu => by
            rcases List.mem_cons.mp hu with rfl | hu
            · exact hts
            · exact sub u hu : (t :: r.map (·.1)) ⊆ s.map (·.1))
          simp at this
          omega
        rw [at_out fun x hx e => ct (List.mem_map.mpr ⟨x, hx, e⟩), at_out fun x hx e => cs (List.mem_map.mpr ⟨x, hx, e⟩)]
    · left
      simpa using cl
theorem eq_dk {r s : PL} (hr : Can r) (hs : Can s) : prim2 .eq (dkP r) (dkP s) = some (.bl (decide (r = s))) := by
  show ((match datas (valsP r), datas (valsP s) with
    | some ds, some es => some ((keysP r).length == (keysP s).length && dEq (keysP s) es (keysP r) ds)
    | _, _ => none).map P.bl) = _
  rw [datas_vals, datas_vals]
  dsimp only
  rw [dEq_row, len_acc, len_acc, eq_rows hr hs]
  rfl
def B_req (n : Nat) : IB := (.cons (.ret true (.and (.o1 (.isA n [(.cls 0)]) (.var 1)) (.o2 .eq (.fld 0 "shares" (.var 0)) (.fld 0 "shares" (.var 1)))))
      .nil)
noncomputable def F_req : List Arg → LR := F_rr (fun r s => .ok (.p (.bl (decide (r = s)))) []) (fun r s => Can r ∧ Can s)
theorem says_req (Φ : Nat → List Arg → LR) (fuel : Nat) : ∀ as, Says (runB Φ fuel (B_req 1) 2 (numA 0 as) (boxesA as)) (boxesA as).length (F_req as) := rr_says fun r s h => by
  refine ⟨[], ?_, rfl, rfl⟩
  have ed := eq_dk h.1 h.2
  generalize decide (r = s) = b at ed ⊢
  simp [B_req, runB, exs, ex, ev, evL, Res.bind, Res.out, Out.andThen, optR, view_p, numA, boxesA, frz, frzL, ins_row, fld_row, isa_row, ed]
theorem req_2 {r s : PL} (hr : Can r) (hs : Can s) (S : Sto) : callA F_req [D.p (rowP r), D.p (rowP s)] S = .ok (.p (.bl (decide (r = s)))) S := callA_2 (F_rr_eq (dom := fun r s => Can r ∧ Can s) ⟨hr, hs⟩)
end PD
/-! Row's *. -/
namespace PD
open PySem (sizeLine PyData)
abbrev mulB (i t : Nat) : IB := (.cons (.auge 2 (.lc false [5, 6] (.tup (.cons (.o2 .add (.var 3) (.var 5)) (.cons (.call true t [] (.cons (.var 4) (.cons (.var 6) .nil))) .nil))) (.tp [5, 6]) (.seq (.meth true 0 "pairs" i (.cons (.var 1) .nil))) .tt))
      .nil)
def B_rmul (n i j t : Nat) : IB := (.cons (.iff (.not (.tr (.o1 (.isA n [(.cls 0)]) (.var 1))))
      (.cons .bad
      .nil)
      .nil)
      (.cons (.set (.nm 2) (.lst true .nil))
      (.cons (.for_ (.tp [3, 4]) (.seq (.meth true 0 "pairs" i (.cons (.var 0) .nil)))
      (.cons (.auge 2 (.lc false [5, 6] (.tup (.cons (.o2 .add (.var 3) (.var 5)) (.cons (.call true t [] (.cons (.var 4) (.cons (.var 6) .nil))) .nil))) (.tp [5, 6]) (.seq (.meth true 0 "pairs" i (.cons (.var 1) .nil))) .tt))
      .nil))
      (.cons (.ret true (.mk true 0 j [] (.cons (.var 2) .nil)))
      .nil))))
noncomputable def F_rmul : List Arg → LR := F_rr (fun r s => .ok (.p (rowP (norm (prodL r s)))) []) (fun r s => (Tame r ∧ Tame s) ∧ Tame (prodL r s))
abbrev ρM (r s : PL) (a b : Option D) : List (Option D) := [some (.p (rowP r)), some (.p (rowP s)), some (.box 0), a, b, none, none]
abbrev SM (l : PL) : Sto := [some (.lst (l.map pairP))]
abbrev mulL (x : Int × Rat) (s : PL) : PL := s.map fun y => (x.1 + y.1, x.2 * y.2)
theorem turn_mul (Φ : Nat → List Arg → LR) (fuel i t : Nat) (hi : Φ i = F_pairs) (ht : Φ t = F_times) (r s acc : PL) (x : Int × Rat) (sx : sm x.2) (ss : ∀ y ∈ s, sm y.2) (hl : acc.length + s.length ≤ 1000) :
    exs Φ fuel (mulB i t) (ρM r s (some (.p (.int x.1))) (some (.p (fr x.2)))) (SM acc) = .next (ρM r s (some (.p (.int x.1))) (some (.p (fr x.2)))) (SM (acc ++ mulL x s)) := by
  have e1 := ev_lcp (Φ := Φ) (i := i) (v := 1) hi (ρ := ρM r s (some (.p (.int x.1))) (some (.p (fr x.2)))) (S := SM acc) (r := s) rfl (own := [5, 6]) (elt := (.tup (.cons (.o2 .add (.var 3) (.var 5)) (.cons (.call true t [] (.cons (.var 4) (.cons (.var 6) .nil))) .nil)))) (tg := .tp [5, 6]) (cond := .tt) (g := fun y => some (pairP (x.1 + y.1, x.2 * y.2))) (fun y hy => by
    have e : setTg (.tp [5, 6]) (pairP y) (wipeR (ρM r s (some (.p (.int x.1))) (some (.p (fr x.2)))) [5, 6]) = some [some (.p (rowP r)), some (.p (rowP s)), some (.box 0), some (.p (.int x.1)), some (.p (fr x.2)), some (.p (.int y.1)), some (.p (fr y.2))] := rfl
    unfold stepL
    rw [e]
    have ct : ev Φ (.call true t [] (.cons (.var 4) (.cons (.var 6) .nil))) [some (.p (rowP r)), some (.p (rowP s)), some (.box 0), some (.p (.int x.1)), some (.p (fr x.2)), some (.p (.int y.1)), some (.p (fr y.2))] (SM acc) = .ok (.p (fr (x.2 * y.2))) (SM acc) := by
      simp [ev, evL, Res.bind, frzL, frz, ht, times_2 sx (ss y hy)]
    simp only [evT, Res.bind, if_true]
    rw [ev_two (x := .int (x.1 + y.1)) (y := fr (x.2 * y.2)) (ev_addi (ev_var rfl) (ev_var rfl)) ct]
    rfl) (by omega)
  rw [fm_map, show (s.map fun y => pairP (x.1 + y.1, x.2 * y.2)) = (mulL x s).map pairP by simp [mulL]] at e1
  have mo : mutO .extend (.lst (acc.map pairP)) (.lst ((mulL x s).map pairP)) = some (.lst ((acc ++ mulL x s).map pairP)) := by
    show (if _ then some (O.lst _) else none) = _
    rw [if_pos (by simp [mulL, PySem.sizeLine_eq]; omega), List.map_append]
  rw [mulB, exs_cons]
  show (((ev Φ _ (ρM r s (some (.p (.int x.1))) (some (.p (fr x.2)))) (SM acc)).out _ _).andThen _) = _
  rw [e1]
  simp only [Res.out, view_p]
  have e0 : (SM acc)[0]? = some (some (.lst (acc.map pairP))) := rfl
  rw [e0]
  dsimp only
  rw [mo]
  rfl
theorem loop_mul (Φ : Nat → List Arg → LR) (fuel i t : Nat) (hi : Φ i = F_pairs) (ht : Φ t = F_times) (r s : PL) (ss : ∀ y ∈ s, sm y.2) : ∀ (l acc : PL) (a b : Option D), (∀ x ∈ l, sm x.2) → (acc ++ prodL l s).length ≤ 1000 → ∃ a' b', forO (fun x ρ S => match setTg (.tp [3, 4]) x ρ with
      | some ρ => exs Φ fuel (mulB i t) ρ S
      | none => .bad) (l.map pairP) (ρM r s a b) (SM acc) = .next (ρM r s a' b') (SM (acc ++ prodL l s)) := by
  intro l
  induction l with
  | nil =>
    intro acc a b _ _
    exact ⟨a, b, by simp [forO, prodL]⟩
  | cons x l ih =>
    intro acc a b hs hl
    have ep : prodL (x :: l) s = mulL x s ++ prodL l s := by simp [prodL]
    rw [ep, ← List.append_assoc] at hl ⊢
    have hl' : acc.length + s.length ≤ 1000 := by
      simp only [List.length_append, mulL, List.length_map] at hl
      omega
    obtain ⟨a', b', e⟩ := ih (acc ++ mulL x s) (some (.p (.int x.1))) (some (.p (fr x.2))) (fun y hy => hs y (List.mem_cons_of_mem _ hy)) hl
    refine ⟨a', b', ?_⟩
    rw [List.map_cons, forO]
    have e1 : setTg (.tp [3, 4]) (pairP x) (ρM r s a b) = some (ρM r s (some (.p (.int x.1))) (some (.p (fr x.2)))) := rfl
    rw [e1]
    dsimp only
    rw [turn_mul Φ fuel i t hi ht r s acc x (hs x List.mem_cons_self) ss hl']
    exact e
theorem says_rmul (Φ : Nat → List Arg → LR) (fuel i j t : Nat) (hi : Φ i = F_pairs) (hj : Φ j = F_init) (ht : Φ t = F_times) : ∀ as, Says (runB Φ fuel (B_rmul 1 i j t) 7 (numA 0 as) (boxesA as)) (boxesA as).length (F_rmul as) := rr_says fun r s h => by
  refine ⟨[none], runB_ret ?_, rfl, rfl⟩
  show exs Φ fuel (B_rmul 1 i j t) [some (.p (rowP r)), some (.p (rowP s)), none, none, none, none, none] [] = _
  obtain ⟨a', b', e⟩ := loop_mul Φ fuel i t hi ht r s (fun y hy => h.1.2.sm hy) r [] none none (fun y hy => h.1.1.sm hy) (by have := h.2.len; simp; omega)
  rw [List.nil_append] at e
  have s1 : ex Φ fuel (.iff (.not (.tr (.o1 (.isA 1 [(.cls 0)]) (.var 1)))) (.cons .bad .nil) .nil) [some (.p (rowP r)), some (.p (rowP s)), none, none, none, none, none] [] = .next [some (.p (rowP r)), some (.p (rowP s)), none, none, none, none, none] [] := by
    simp [ex, evT, ev, Res.bind, Res.out, optR, view_p, isa_row, truth, exs]
  have s2 : ex Φ fuel (.set (.nm 2) (.lst true .nil)) [some (.p (rowP r)), some (.p (rowP s)), none, none, none, none, none] [] = .next (ρM r s none none) (SM []) := by
    simp [ex, ev, evL, Res.bind, Res.out, frzL, boxIf]
  have hsrc : evS Φ (.seq (.meth true 0 "pairs" i (.cons (.var 0) .nil))) (ρM r s none none) (SM []) = .ok (r.map pairP) (SM []) := by
    show (ev Φ _ _ _).bind _ = _
    rw [ev_pairs hi rfl]
    rfl
  have s3 : ex Φ fuel (.for_ (.tp [3, 4]) (.seq (.meth true 0 "pairs" i (.cons (.var 0) .nil))) (mulB i t)) (ρM r s none none) (SM []) = .next (ρM r s a' b') (SM (prodL r s)) := by
    show (evS Φ (.seq (.meth true 0 "pairs" i (.cons (.var 0) .nil))) _ _).out _ _ = _
    rw [hsrc]
    exact e
  have s4 : ev Φ (.mk true 0 j [] (.cons (.var 2) .nil)) (ρM r s a' b') (SM (prodL r s)) = .ok (.p (rowP (norm (prodL r s)))) [none] := by
    have f : frz (SM (prodL r s)) (.box 0) = .ok (.lst ((prodL r s).map pairP)) [none] := rfl
    have m := mk_row true h.2 [none]
    simp only [ev, evL, List.getElem?_cons_succ, List.getElem?_cons_zero, Res.bind, frzL, f, hj, List.append_nil]
    exact m
  rw [B_rmul, exs_cons, s1]
  dsimp only [Out.andThen]
  rw [exs_cons, s2]
  dsimp only [Out.andThen]
  rw [exs_cons, s3]
  dsimp only [Out.andThen]
  rw [exs_cons]
  simp only [ex, s4, Res.out, frz, if_true, Out.andThen]
theorem rmul_2 {r s : PL} (h : (Tame r ∧ Tame s) ∧ Tame (prodL r s)) (S : Sto) : callA F_rmul [D.p (rowP r), D.p (rowP s)] S = .ok (.p (rowP (norm (prodL r s)))) S := callA_2 (F_rr_eq (dom := fun r s => (Tame r ∧ Tame s) ∧ Tame (prodL r s)) h)
end PD
/-! The law's own defs: bag, draw, low, added, times. -/
namespace PD
open PySem (sizeLine PyData)
theorem mul_ok {i j : Int} (hi : i.natAbs < 2 ^ 400000) (hj : j.natAbs < 2 ^ 400000) : prim2 .mul (.int i) (.int j) = some (.int (i * j)) := by
  have h1 := log_of hi (by omega)
  have h2 := log_of hj (by omega)
  simp only [prim2]
  rw [if_pos (by omega)]
theorem small_ok {i : Int} (h : i.natAbs < 2 ^ 64) : i.natAbs < 2 ^ 400000 := Nat.lt_of_lt_of_le h (Nat.pow_le_pow_right (by omega) (by omega))
theorem mod_ok {i j : Int} (hj : 0 < j) : prim2 .mod (.int i) (.int j) = some (.int (i % j)) := by
  simp only [prim2]
  rw [if_pos hj]
theorem div_ok {i j : Int} (hj : 0 < j) (h : j.natAbs < 2 ^ 64) : prim2 .fdiv (.int i) (.int j) = some (.int (i / j)) := by
  simp only [prim2]
  rw [if_pos ⟨hj, Nat.lt_of_lt_of_le (log_of h (by omega)) (by omega)⟩]
/-! the bag -/
def bagP (c k : Int) : O := .lst [.int c, .int k]
theorem bagP_inj {c k c' k' : Int} (h : bagP c k = bagP c' k') : c = c' ∧ k = k' := by simpa [bagP] using h
def B_bag : IB := (.cons (.iff (.tr (.o2 .lt (.var 0) (.cst (.int 0))))
      (.cons (.ret false (.lst true (.cons (.o1 .neg (.var 0)) (.cons (.o2 .add (.o2 .mul (.cst (.int 37)) (.var 1)) (.cst (.int 18))) .nil))))
      .nil)
      .nil)
      (.cons (.ret false (.lst true (.cons (.var 0) (.cons (.o2 .mul (.cst (.int 37)) (.var 1)) .nil))))
      .nil))
noncomputable def F_bag : List Arg → LR := dec (α := Int × Int) (fun x => [.p (.int x.1), .p (.int x.2)]) (fun x => x.2.natAbs < 2 ^ 50) (fun x => .ok (.o (bagP (if x.1 < 0 then -x.1 else x.1) (if x.1 < 0 then 37 * x.2 + 18 else 37 * x.2))) [])
theorem F_bag_eq {c k : Int} (h : k.natAbs < 2 ^ 50) : F_bag [.p (.int c), .p (.int k)] = .ok (.o (bagP (if c < 0 then -c else c) (if c < 0 then 37 * k + 18 else 37 * k))) [] := dec_eq (a := (c, k)) (fun a b h => by simpa [Prod.ext_iff] using h) h
theorem says_bag (Φ : Nat → List Arg → LR) (fuel : Nat) : ∀ as, Says (runB Φ fuel B_bag 2 (numA 0 as) (boxesA as)) (boxesA as).length (F_bag as) := dec_says fun ⟨c, k⟩ h => by
  have h : k.natAbs < 2 ^ 50 := h
  have m := mul_ok (i := 37) (j := k) (by exact small_ok (by decide)) (small_ok (by omega))
  by_cases hc : c < 0
  · have lt : prim2 .lt (.int c) (.int 0) = some (.bl true) := by simp [prim2, hc]
    refine ⟨0, [some (bagP (-c) (37 * k + 18))], ?_, rfl, rfl, Nat.le_refl _, by simp [hc]⟩
    have ad : prim2 .add (.int (37 * k)) (.int 18) = some (.int (37 * k + 18)) := rfl
    have ng : prim1 .neg (.int c) = some (.int (-c)) := rfl
    simp [B_bag, runB, exs, ex, ev, evT, evL, Res.bind, Res.out, Out.andThen, optR, view_p, numA, boxesA, frz, frzL, truth, lt, m, ad, ng, boxIf, two_le, bagP]
  · have lt : prim2 .lt (.int c) (.int 0) = some (.bl false) := by simp [prim2, hc]
    refine ⟨0, [some (bagP c (37 * k))], ?_, rfl, rfl, Nat.le_refl _, by simp [hc]⟩
    simp [B_bag, runB, exs, ex, ev, evT, evL, Res.bind, Res.out, Out.andThen, optR, view_p, numA, boxesA, frz, frzL, truth, lt, m, boxIf, two_le, bagP]
/-! a draw -/
def drawX (c k : Int) : Int :=
  let a := (c % 2147483629 + 104729 * k + 1) % 2147483587
  let b := (a * a) % 2147483587
  let d := (b + 40692 * k) % 2147483563
  (d * d) % 2147483563
def drawD (c k m : Int) : Int := if 10 ^ 18 ≤ c then c % m else (drawX c (k + 1) / 8) % m
def drawC (c m : Int) : Int := if 10 ^ 18 ≤ c then c / m else c
def B_draw : IB := (.cons (.ixaug .add (.var 0) (.cst (.int 1)) (.cst (.int 1)))
      (.cons (.iff (.tr (.o2 .ge (.o2 .ix (.var 0) (.cst (.int 0))) (.o2 .pow (.cst (.int 10)) (.cst (.int 18)))))
      (.cons (.set (.nm 3) (.o2 .mod (.o1 .int (.o2 .ix (.var 0) (.cst (.int 0)))) (.var 1)))
      (.cons (.ixset (.var 0) (.cst (.int 0)) (.o2 .fdiv (.o2 .ix (.var 0) (.cst (.int 0))) (.var 1)))
      (.cons (.ret true (.var 3))
      .nil)))
      .nil)
      (.cons (.set (.nm 2) (.o2 .mod (.o1 .int (.o2 .add (.o2 .add (.o2 .mod (.o1 .int (.o2 .ix (.var 0) (.cst (.int 0)))) (.cst (.int 2147483629))) (.o2 .mul (.cst (.int 104729)) (.o2 .ix (.var 0) (.cst (.int 1))))) (.cst (.int 1)))) (.cst (.int 2147483587))))
      (.cons (.set (.nm 2) (.o2 .mod (.o1 .int (.o2 .mul (.var 2) (.var 2))) (.cst (.int 2147483587))))
      (.cons (.set (.nm 2) (.o2 .mod (.o1 .int (.o2 .add (.var 2) (.o2 .mul (.cst (.int 40692)) (.o2 .ix (.var 0) (.cst (.int 1)))))) (.cst (.int 2147483563))))
      (.cons (.set (.nm 2) (.o2 .mod (.o1 .int (.o2 .mul (.var 2) (.var 2))) (.cst (.int 2147483563))))
      (.cons (.ret true (.o2 .mod (.o1 .int (.o2 .fdiv (.var 2) (.cst (.int 8)))) (.var 1)))
      .nil)))))))
noncomputable def F_draw : List Arg → LR := dec (α := Int × Int × Int) (fun x => [.o (bagP x.1 x.2.1), .p (.int x.2.2)]) (fun x => x.2.1.natAbs < 2 ^ 50 ∧ 0 < x.2.2 ∧ x.2.2.natAbs < 2 ^ 60) (fun x => .ok (.p (.int (drawD x.1 x.2.1 x.2.2))) [bagP (drawC x.1 x.2.2) (x.2.1 + 1)])
theorem F_draw_eq {c k m : Int} (h : k.natAbs < 2 ^ 50 ∧ 0 < m ∧ m.natAbs < 2 ^ 60) : F_draw [.o (bagP c k), .p (.int m)] = .ok (.p (.int (drawD c k m))) [bagP (drawC c m) (k + 1)] := dec_eq (a := (c, k, m)) (fun a b h => by
  simp only [List.cons.injEq, Arg.o.injEq, Arg.p.injEq, P.int.injEq, and_true] at h
  exact Prod.ext (bagP_inj h.1).1 (Prod.ext (bagP_inj h.1).2 h.2)) h
theorem bag_0 (c k : Int) : prim2 .ix (.lst [.int c, .int k]) (.int 0) = some (.int c) := rfl
theorem bag_1 (c k : Int) : prim2 .ix (.lst [.int c, .int k]) (.int 1) = some (.int k) := rfl
theorem int_i (i : Int) : prim1 .int (.int i) = some (.int i) := rfl
theorem add_i (i j : Int) : prim2 .add (.int i) (.int j) = some (.int (i + j)) := rfl
theorem draw_range {c k m : Int} (h : 0 < m) : 0 ≤ drawD c k m ∧ drawD c k m < m := by
  unfold drawD
  split
  · exact ⟨Int.emod_nonneg _ (by omega), Int.emod_lt_of_pos _ h⟩
  · exact ⟨Int.emod_nonneg _ (by omega), Int.emod_lt_of_pos _ h⟩
theorem says_draw (Φ : Nat → List Arg → LR) (fuel : Nat) : ∀ as, Says (runB Φ fuel B_draw 4 (numA 0 as) (boxesA as)) (boxesA as).length (F_draw as) := dec_says fun ⟨c, k, m⟩ h => by
  obtain ⟨h1, h2, h3⟩ : k.natAbs < 2 ^ 50 ∧ 0 < m ∧ m.natAbs < 2 ^ 60 := h
  refine ⟨[some (bagP (drawC c m) (k + 1))], runB_ret ?_, rfl, rfl⟩
  show exs Φ fuel B_draw [some (.box 0), some (.p (.int m)), none, none] [some (bagP c k)] = _
  have vb : ∀ c k, view [some (bagP c k)] (.box 0) = some (.lst [.int c, .int k]) := fun _ _ => rfl
  have s1 : ex Φ fuel (.ixaug .add (.var 0) (.cst (.int 1)) (.cst (.int 1))) [some (.box 0), some (.p (.int m)), none, none] [some (bagP c k)] = .next [some (.box 0), some (.p (.int m)), none, none] [some (bagP c (k + 1))] := rfl
  have pw : prim2 .pow (.int 10) (.int 18) = some (.int (10 ^ 18)) := by
    simp only [prim2]
    rw [if_pos (by decide)]
    rfl
  have md := mod_ok (i := c) h2
  rw [B_draw, exs_cons, s1]
  dsimp only [Out.andThen]
  rw [exs_cons]
  by_cases hc : 10 ^ 18 ≤ c
  · have ge : prim2 .ge (.int c) (.int (10 ^ 18)) = some (.bl true) := by
      show some (P.bl (decide ((10 : Int) ^ 18 ≤ c))) = _
      rw [decide_eq_true hc]
    have dv := div_ok (i := c) h2 (by omega)
    have st : setO (bagP c (k + 1)) (.int 0) (.int (c / m)) = some (bagP (c / m) (k + 1)) := rfl
    have t : evT Φ (.tr (.o2 .ge (.o2 .ix (.var 0) (.cst (.int 0))) (.o2 .pow (.cst (.int 10)) (.cst (.int 18))))) [some (.box 0), some (.p (.int m)), none, none] [some (bagP c (k + 1))] = .ok true [some (bagP c (k + 1))] := by
      simp only [evT, ev, List.getElem?_cons_zero, Res.bind, vb, view_p, Option.bind_some, bag_0, pw, Option.map_some, optR, ge, truth]
    simp only [ex, t, Res.out, if_true, exs, ev, List.getElem?_cons_succ, List.getElem?_cons_zero, Res.bind, vb, view_p, Option.bind_some, bag_0, int_i, md, dv, Option.map_some, optR, frz, Out.andThen, List.set_cons_succ, List.set_cons_zero, st]
    rw [drawD, drawC, if_pos hc, if_pos hc]
  · have ge : prim2 .ge (.int c) (.int (10 ^ 18)) = some (.bl false) := by
      show some (P.bl (decide ((10 : Int) ^ 18 ≤ c))) = _
      rw [decide_eq_false hc]
    have t : evT Φ (.tr (.o2 .ge (.o2 .ix (.var 0) (.cst (.int 0))) (.o2 .pow (.cst (.int 10)) (.cst (.int 18))))) [some (.box 0), some (.p (.int m)), none, none] [some (bagP c (k + 1))] = .ok false [some (bagP c (k + 1))] := by
      simp only [evT, ev, List.getElem?_cons_zero, Res.bind, vb, view_p, Option.bind_some, bag_0, pw, Option.map_some, optR, ge, truth]
    have m1 := mod_ok (i := c) (j := 2147483629) (by decide)
    have m2 := mul_ok (i := 104729) (j := k + 1) (small_ok (by decide)) (small_ok (by omega))
    have m3 := mod_ok (i := c % 2147483629 + 104729 * (k + 1) + 1) (j := 2147483587) (by decide)
    generalize ha : (c % 2147483629 + 104729 * (k + 1) + 1) % 2147483587 = a at m3
    have ha' : 0 ≤ a ∧ a < 2147483587 := by omega
    have m4 := mul_ok (i := a) (j := a) (small_ok (by omega)) (small_ok (by omega))
    have m5 := mod_ok (i := a * a) (j := 2147483587) (by decide)
    have m6 := mul_ok (i := 40692) (j := k + 1) (small_ok (by decide)) (small_ok (by omega))
    have m7 := mod_ok (i := a * a % 2147483587 + 40692 * (k + 1)) (j := 2147483563) (by decide)
    generalize hd : (a * a % 2147483587 + 40692 * (k + 1)) % 2147483563 = d at m7
    have hd' : 0 ≤ d ∧ d < 2147483563 := by omega
    have m8 := mul_ok (i := d) (j := d) (small_ok (by omega)) (small_ok (by omega))
    have m9 := mod_ok (i := d * d) (j := 2147483563) (by decide)
    have m10 := div_ok (i := d * d % 2147483563) (j := 8) (by decide) (by decide)
    have m11 := mod_ok (i := d * d % 2147483563 / 8) h2
    have ex1 : drawX c (k + 1) = d * d % 2147483563 := by
      unfold drawX
      dsimp only
      rw [ha, hd]
    simp only [ex, t, Res.out, if_false, Bool.false_eq_true, exs, ev, List.getElem?_cons_succ, List.getElem?_cons_zero, Res.bind, vb, view_p, Option.bind_some, bag_0, bag_1, int_i, add_i, m1, m2, m3, m4, m5, m6, m7, m8, m9, m10, m11, Option.map_some, optR, frz, Out.andThen, List.set_cons_succ, List.set_cons_zero]
    rw [drawD, drawC, if_neg hc, if_neg hc, ex1]
    simp only [if_true]
end PD
/-! The law's own defs: low, added, times. -/
namespace PD
open PySem (sizeLine PyData)
abbrev lowW : IB := (.cons (.par 2 3 (.var 3) (.o2 .mod (.o1 .int (.var 2)) (.var 3)))
      .nil)
def B_low : IB := (.cons (.par 2 3 (.o1 .abs (.var 0)) (.var 1))
      (.cons (.whl (.tr (.o2 .ne (.var 3) (.cst (.int 0))))
      (.cons (.par 2 3 (.var 3) (.o2 .mod (.o1 .int (.var 2)) (.var 3)))
      .nil))
      (.cons (.ret true (.tup (.cons (.o2 .fdiv (.var 0) (.var 2)) (.cons (.o2 .fdiv (.var 1) (.var 2)) .nil))))
      .nil)))
noncomputable def F_low : List Arg → LR := dec (α := Int × Int) (fun x => [.p (.int x.1), .p (.int x.2)]) (fun x => 0 < x.2 ∧ x.2.natAbs < 2 ^ 8500) (fun x => .ok (.p (fr (Rat.divInt x.1 x.2))) [])
theorem F_low_eq {a b : Int} (h : 0 < b ∧ b.natAbs < 2 ^ 8500) : F_low [.p (.int a), .p (.int b)] = .ok (.p (fr (Rat.divInt a b))) [] := dec_eq (a := (a, b)) (fun a b h => by simpa [Prod.ext_iff] using h) h
theorem low_2 {a b : Int} (h : 0 < b ∧ b.natAbs < 2 ^ 8500) (S : Sto) : callA F_low [D.p (.int a), D.p (.int b)] S = .ok (.p (fr (Rat.divInt a b))) S := callA_2 (F_low_eq h)
theorem run_low (Φ : Nat → List Arg → LR) (f0 : Nat) (S : Sto) (p q : Option D) : ∀ (fuel : Nat) (a b : Int), 0 ≤ a → 0 ≤ b → b.natAbs < fuel →
    whileO (evT Φ (.tr (.o2 .ne (.var 3) (.cst (.int 0))))) (exs Φ f0 lowW) fuel [p, q, some (.p (.int a)), some (.p (.int b))] S = .next [p, q, some (.p (.int (Int.gcd a b))), some (.p (.int 0))] S
  | 0, _, _, _, _, h => by omega
  | n + 1, a, b, ha, hb0, h => by
    by_cases hb : b = 0
    · subst hb
      have : (Int.gcd a 0 : Int) = a := by rw [Int.gcd_zero_right]; omega
      rw [this]
      simp [whileO, evT, ev, Res.bind, Res.out, optR, view, prim2, pyEqD_int, truth]
    · have hp : 0 < b := by omega
      have m := mod_ok (i := a) hp
      have r0 := Int.emod_nonneg a hb
      have r1 := Int.emod_lt_of_pos a hp
      have e1 : prim2 .ne (.int b) (.int 0) = some (.bl true) := by simp [prim2, pyEqD_int, hb]
      have ih := run_low Φ f0 S p q n b (a % b) hb0 r0 (by omega)
      have g : Int.gcd b (a % b) = Int.gcd a b := by
        have := gcd_fmod a b
        rwa [Int.fmod_eq_emod_of_nonneg _ hb0] at this
      rw [g] at ih
      rw [← ih]
      simp [whileO, evT, ev, Res.bind, Res.out, optR, view_p, e1, truth, exs, ex, Out.andThen, int_i, m]
theorem says_low (Φ : Nat → List Arg → LR) : ∀ as, Says (runB Φ (2 ^ 10000) B_low 4 (numA 0 as) (boxesA as)) (boxesA as).length (F_low as) := dec_says fun ⟨a, b⟩ h => by
  obtain ⟨h0, h2⟩ : 0 < b ∧ b.natAbs < 2 ^ 8500 := h
  refine ⟨[], runB_ret ?_, rfl, rfl⟩
  show exs Φ (2 ^ 10000) B_low [some (.p (.int a)), some (.p (.int b)), none, none] [] = _
  have ab : prim1 .abs (.int a) = some (.int (a.natAbs : Int)) := by
    show some (P.int (if a < 0 then -a else a)) = _
    congr 2
    split <;> omega
  have s1 : ex Φ (2 ^ 10000) (.par 2 3 (.o1 .abs (.var 0)) (.var 1)) [some (.p (.int a)), some (.p (.int b)), none, none] [] = .next [some (.p (.int a)), some (.p (.int b)), some (.p (.int a.natAbs)), some (.p (.int b))] [] := by
    simp [ex, ev, Res.bind, Res.out, optR, view_p, ab]
  have hl : b.natAbs < 2 ^ 10000 := Nat.lt_of_lt_of_le h2 (Nat.pow_le_pow_right (by omega) (by omega))
  have s2 : ex Φ (2 ^ 10000) (.whl (.tr (.o2 .ne (.var 3) (.cst (.int 0)))) lowW) [some (.p (.int a)), some (.p (.int b)), some (.p (.int a.natAbs)), some (.p (.int b))] [] = .next [some (.p (.int a)), some (.p (.int b)), some (.p (.int (Int.gcd a b))), some (.p (.int 0))] [] := by
    have := run_low Φ (2 ^ 10000) [] (some (.p (.int a))) (some (.p (.int b))) (2 ^ 10000) a.natAbs b (by omega) (by omega) hl
    have g : Int.gcd (a.natAbs : Int) b = Int.gcd a b := by simp [Int.gcd]
    rw [g] at this
    exact this
  have hb0 : b ≠ 0 := by omega
  have gp := gcd_pos (a := a) hb0
  have gl := gcd_le (a := a) hb0
  have glog : (Int.gcd a b).log2 < 9000 := Nat.lt_of_lt_of_le (log_of (Nat.lt_of_le_of_lt gl h2) (by omega)) (by omega)
  have fd : ∀ x : Int, prim2 .fdiv (.int x) (.int (Int.gcd a b)) = some (.int (x / (Int.gcd a b : Nat))) := fun x => by
    simp only [prim2]
    rw [if_pos ⟨by omega, by rw [Int.natAbs_natCast]; exact glog⟩]
  have sg : b.sign = 1 := Int.sign_eq_one_of_pos h0
  have nm : (Rat.divInt a b).num = a / (Int.gcd a b : Nat) := by rw [Rat.num_divInt, Int.gcd_comm, sg, Int.one_mul]
  have dn : ((Rat.divInt a b).den : Int) = b / (Int.gcd a b : Nat) := by
    rw [Rat.den_divInt, if_neg hb0, Int.gcd_comm]
    have : (b.natAbs : Int) = b := by omega
    rw [Int.natCast_ediv, this]
  have f1 := fd a
  have f2 := fd b
  have e : ev Φ (.tup (.cons (.o2 .fdiv (.var 0) (.var 2)) (.cons (.o2 .fdiv (.var 1) (.var 2)) .nil))) [some (.p (.int a)), some (.p (.int b)), some (.p (.int (Int.gcd a b))), some (.p (.int 0))] [] = .ok (.p (fr (Rat.divInt a b))) [] := by
    rw [ev_two (x := .int (a / (Int.gcd a b : Nat))) (y := .int (b / (Int.gcd a b : Nat)))]
    · rw [fr, nm, dn]
    · simp [ev, Res.bind, optR, view_p, f1]
    · simp [ev, Res.bind, optR, view_p, f2]
  rw [B_low, exs_cons, s1]
  dsimp only [Out.andThen]
  rw [exs_cons, s2]
  dsimp only [Out.andThen]
  rw [exs_cons]
  simp only [ex, e, Res.out, frz, if_true, Out.andThen]
/-! sums and products of fractions -/
def B_ladd (i : Nat) : IB := (.cons (.ret true (.call true i [] (.cons (.o2 .add (.o2 .mul (.o2 .ix (.var 0) (.cst (.int 0))) (.o2 .ix (.var 1) (.cst (.int 1)))) (.o2 .mul (.o2 .ix (.var 1) (.cst (.int 0))) (.o2 .ix (.var 0) (.cst (.int 1))))) (.cons (.o2 .mul (.o2 .ix (.var 0) (.cst (.int 1))) (.o2 .ix (.var 1) (.cst (.int 1)))) .nil))))
      .nil)
def B_ltim (i : Nat) : IB := (.cons (.ret true (.call true i [] (.cons (.o2 .mul (.o2 .ix (.var 0) (.cst (.int 0))) (.o2 .ix (.var 1) (.cst (.int 0)))) (.cons (.o2 .mul (.o2 .ix (.var 0) (.cst (.int 1))) (.o2 .ix (.var 1) (.cst (.int 1)))) .nil))))
      .nil)
noncomputable def F_ladd : List Arg → LR := F_two (fun p q => .ok (.p (fr (p + q))) []) sm2
noncomputable def F_ltim : List Arg → LR := F_two (fun p q => .ok (.p (fr (p * q))) []) sm2
theorem ladd_2 {p q : Rat} (h : sm p) (h' : sm q) (S : Sto) : callA F_ladd [D.p (fr p), D.p (fr q)] S = .ok (.p (fr (p + q))) S := callA_2 (F_two_eq (dom := sm2) ⟨h, h'⟩)
theorem ltim_2 {p q : Rat} (h : sm p) (h' : sm q) (S : Sto) : callA F_ltim [D.p (fr p), D.p (fr q)] S = .ok (.p (fr (p * q))) S := callA_2 (F_two_eq (dom := sm2) ⟨h, h'⟩)
theorem pow_ok {n : Nat} (h : n < 2 ^ 4000) : n < 2 ^ 400000 := Nat.lt_of_lt_of_le h (Nat.pow_le_pow_right (by omega) (by omega))
theorem den_ok {p q : Rat} (h : sm p) (h' : sm q) : (0 : Int) < (p.den : Int) * (q.den : Int) ∧ ((p.den : Int) * (q.den : Int)).natAbs < 2 ^ 8500 := by
  have a := p.den_pos
  have b := q.den_pos
  refine ⟨Int.mul_pos (by omega) (by omega), ?_⟩
  rw [Int.natAbs_mul, Int.natAbs_natCast, Int.natAbs_natCast]
  have e : (2 : Nat) ^ 4000 * 2 ^ 4000 = 2 ^ 8000 := by rw [← Nat.pow_add]
  exact Nat.lt_of_lt_of_le (Nat.mul_lt_mul'' h.2 h'.2) (e ▸ Nat.pow_le_pow_right (by omega) (by omega))
theorem says_ltim (Φ : Nat → List Arg → LR) (fuel i : Nat) (hi : Φ i = F_low) : ∀ as, Says (runB Φ fuel (B_ltim i) 2 (numA 0 as) (boxesA as)) (boxesA as).length (F_ltim as) := two_says fun p q h => by
  obtain ⟨hp, hq⟩ := h
  refine ⟨[], ?_, rfl, rfl⟩
  have m1 := mul_ok (i := p.num) (j := q.num) (pow_ok hp.1) (pow_ok hq.1)
  have m2 := mul_ok (i := p.den) (j := q.den) (by rw [Int.natAbs_natCast]; exact pow_ok hp.2) (by rw [Int.natAbs_natCast]; exact pow_ok hq.2)
  have dv : Rat.divInt (p.num * q.num) ((p.den : Int) * (q.den : Int)) = p * q := by
    rw [← Int.natCast_mul, Rat.mul_def', Rat.divInt_ofNat]
  have lo : ∀ S, callA F_low [D.p (.int (p.num * q.num)), D.p (.int ((p.den : Int) * (q.den : Int)))] S = .ok (.p (fr (p * q))) S := fun S => by
    rw [low_2 (den_ok hp hq), dv]
  simp [B_ltim, runB, exs, ex, ev, evL, Res.bind, Res.out, Out.andThen, optR, view_p, numA, boxesA, frz, frzL, hi, fr, ix0, ix1, m1, m2]
  rw [lo]
  rfl
theorem says_ladd (Φ : Nat → List Arg → LR) (fuel i : Nat) (hi : Φ i = F_low) : ∀ as, Says (runB Φ fuel (B_ladd i) 2 (numA 0 as) (boxesA as)) (boxesA as).length (F_ladd as) := two_says fun p q h => by
  obtain ⟨hp, hq⟩ := h
  refine ⟨[], ?_, rfl, rfl⟩
  have m1 := mul_ok (i := p.num) (j := q.den) (pow_ok hp.1) (by rw [Int.natAbs_natCast]; exact pow_ok hq.2)
  have m2 := mul_ok (i := q.num) (j := p.den) (pow_ok hq.1) (by rw [Int.natAbs_natCast]; exact pow_ok hp.2)
  have m3 := mul_ok (i := p.den) (j := q.den) (by rw [Int.natAbs_natCast]; exact pow_ok hp.2) (by rw [Int.natAbs_natCast]; exact pow_ok hq.2)
  have dv : Rat.divInt (p.num * q.den + q.num * p.den) ((p.den : Int) * (q.den : Int)) = p + q := by
    rw [← Int.natCast_mul, Rat.add_def', Rat.divInt_ofNat]
  have lo : ∀ S, callA F_low [D.p (.int (p.num * q.den + q.num * p.den)), D.p (.int ((p.den : Int) * (q.den : Int)))] S = .ok (.p (fr (p + q))) S := fun S => by
    rw [low_2 (den_ok hp hq), dv]
  simp [B_ladd, runB, exs, ex, ev, evL, Res.bind, Res.out, Out.andThen, optR, view_p, numA, boxesA, frz, frzL, hi, fr, ix0, ix1, m1, m2, m3, add_i]
  rw [lo]
  rfl
end PD
/-! The law's own defs: sum, plain. -/
namespace PD
open PySem (sizeLine PyData)
theorem ex_for {Φ : Nat → List Arg → LR} {fuel : Nat} {tg : Tg} {src : Src} {b : IB} {ρ : List (Option D)} {S S' : Sto} {items : List P} (h : evS Φ src ρ S = .ok items S') : ex Φ fuel (.for_ tg src b) ρ S = forO (fun x ρ S => match setTg tg x ρ with
    | some ρ => exs Φ fuel b ρ S
    | none => .bad) items ρ S' := by
  simp only [ex, h, Res.out] <;> rfl
theorem lstP_inj {ps qs : PL} (h : (P.lst (ps.map pairP)) = .lst (qs.map pairP)) : ps = qs := map_inj (fun _ _ => pairP_inj) (P.lst.inj h)
/-- one list of pairs -/
noncomputable def F_ps (g : PL → LR) (dom : PL → Prop) : List Arg → LR := dec (α := PL) (fun ps => [.p (.lst (ps.map pairP))]) dom g
theorem F_ps_eq {g : PL → LR} {dom : PL → Prop} {ps : PL} (h : dom ps) : F_ps g dom [.p (.lst (ps.map pairP))] = g ps := dec_eq (a := ps) (fun a b h => lstP_inj (by simpa only [List.cons.injEq, Arg.p.injEq, and_true] using h)) h
theorem ps_says {g : PL → LR} {dom : PL → Prop} {r : List Arg → Res D} {k : List Arg → Nat} (h : ∀ ps, dom ps → Says (r [.p (.lst (ps.map pairP))]) (k [.p (.lst (ps.map pairP))]) (g ps)) (as : List Arg) : Says (r as) (k as) (F_ps g dom as) := dec_says h as
/-! sum -/
def B_lsum (p : Nat) : IB := (.cons (.set (.nm 1) (.tup (.cons (.cst (.int 0)) (.cons (.cst (.int 1)) .nil))))
      (.cons (.for_ (.tp [2, 3]) (.seq (.var 0))
      (.cons (.set (.nm 1) (.call true p [] (.cons (.var 1) (.cons (.var 3) .nil))))
      .nil))
      (.cons (.ret true (.var 1))
      .nil)))
noncomputable def F_lsum : List Arg → LR := F_ps (fun ps => .ok (.p (fr (totQ ps))) []) Tame
theorem lsum_1 {ps : PL} (h : Tame ps) (S : Sto) : callA F_lsum [D.p (.lst (ps.map pairP))] S = .ok (.p (fr (totQ ps))) S := callA_1 (F_ps_eq h)
theorem says_lsum (Φ : Nat → List Arg → LR) (fuel p : Nat) (hp : Φ p = F_ladd) : ∀ as, Says (runB Φ fuel (B_lsum p) 4 (numA 0 as) (boxesA as)) (boxesA as).length (F_lsum as) := ps_says fun r h => by
  refine ⟨[], runB_ret ?_, rfl, rfl⟩
  show exs Φ fuel (B_lsum p) [some (.p (.lst (r.map pairP))), none, none, none] [] = _
  obtain ⟨a', b', e⟩ := loop_tot Φ fuel p (hp.trans rfl) (some (.p (.lst (r.map pairP)))) [] r 0 0 none none (by rw [Nat.zero_mul]; exact Gr.zero _ _) (by have := h.len; omega) h.gr
  rw [Rat.zero_add] at e
  rw [B_lsum, exs_cons]
  have s1 : ex Φ fuel (.set (.nm 1) (.tup (.cons (.cst (.int 0)) (.cons (.cst (.int 1)) .nil)))) [some (.p (.lst (r.map pairP))), none, none, none] [] = .next [some (.p (.lst (r.map pairP))), some (.p (fr 0)), none, none] [] := by
    simp only [ex]
    rw [ev_two (x := .int 0) (y := .int 1) rfl rfl]
    rfl
  rw [s1]
  dsimp only [Out.andThen]
  rw [exs_cons]
  rw [ex_for (items := r.map pairP) (S' := []) rfl]
  exact (congrArg (fun o => Out.andThen o fun ρ S => exs Φ fuel (.cons (.ret true (.var 1)) .nil) ρ S) e).trans rfl
/-! plain -/
def B_gat2 (i : Nat) : IB := (.cons (.ixset (.var 1) (.var 2) (.call true i [] (.cons (.get (.var 1) (.var 2) (.tup (.cons (.cst (.int 0)) (.cons (.cst (.int 1)) .nil)))) (.cons (.var 3) .nil))))
      .nil)
abbrev ρJ (pr : P) (a b : Option D) : List (Option D) := [some (.p pr), some (.box 0), a, b]
abbrev SJ (acc : PL) : Sto := [some (.dk (keysP acc) (valsP acc))]
theorem step_gat2 (Φ : Nat → List Arg → LR) (fuel i : Nat) (hi : Φ i = F_ladd) {m : Nat} {acc : PL} {x : Int × Rat} {pr : P} (h : AccOk m acc) (hm : m ≤ 300) (hx : Gr DD VV x.2) :
    exs Φ fuel (B_gat2 i) (ρJ pr (some (.p (.int x.1))) (some (.p (fr x.2)))) (SJ acc) = .next (ρJ pr (some (.p (.int x.1))) (some (.p (fr x.2)))) (SJ (addQ acc x)) := by
  have s1 : sm (getQ acc x.1) := sm_gr ((h.get x.1).mono (Nat.mul_le_mul_right _ (by omega)))
  have s2 : sm x.2 := sm_gr (hx.mono (by decide))
  have hl : (keysP acc).length < sizeLine := by rw [len_acc, PySem.sizeLine_eq]; have := h.len; omega
  have pa := put_acc acc x.1 (getQ acc x.1 + x.2)
  have ha : addQ acc x = putQ acc x.1 (getQ acc x.1 + x.2) := rfl
  have so : setO (.dk (keysP acc) (valsP acc)) (.int x.1) (fr (getQ acc x.1 + x.2)) = some (.dk (keysP (addQ acc x)) (valsP (addQ acc x))) := by
    simp only [setO, keyOf, Option.bind_some]
    rw [if_pos hl, pa, ha]
  have vw : view (SJ acc) (.box 0) = some (dkP acc) := rfl
  have g : getP (dkP acc) (.int x.1) (.tup [.int 0, .int 1]) = some (fr (getQ acc x.1)) := by
    show some _ = _
    rw [← look_row]
  have is : isDict (dkP acc) = true := rfl
  have eg : ev Φ (.get (.var 1) (.var 2) (.tup (.cons (.cst (.int 0)) (.cons (.cst (.int 1)) .nil)))) (ρJ pr (some (.p (.int x.1))) (some (.p (fr x.2)))) (SJ acc) = .ok (.p (fr (getQ acc x.1))) (SJ acc) := by
    simp [ev, evL, Res.bind, frzL, frz, optR, view_p, vw, is, g, two_le]
  rw [B_gat2, exs_cons]
  have e2 : ev Φ (.call true i [] (.cons (.get (.var 1) (.var 2) (.tup (.cons (.cst (.int 0)) (.cons (.cst (.int 1)) .nil)))) (.cons (.var 3) .nil))) (ρJ pr (some (.p (.int x.1))) (some (.p (fr x.2)))) (SJ acc) = .ok (.p (fr (getQ acc x.1 + x.2))) (SJ acc) := by
    refine call_p (ps := [fr (getQ acc x.1), fr x.2]) ?_ ?_
    · simp only [evL, eg, Res.bind]
      simp [ev]
    · rw [hi]
      exact F_two_eq (dom := sm2) ⟨s1, s2⟩
  simp only [ex]
  rw [e2]
  simp only [Res.out, frz, ev, List.getElem?_cons_succ, List.getElem?_cons_zero, so, exs_nil, Out.andThen, List.set_cons_succ, List.set_cons_zero]
theorem loop_gat2 (Φ : Nat → List Arg → LR) (fuel i : Nat) (hi : Φ i = F_ladd) (pr : P) : ∀ (ps acc : PL) (m : Nat) (a b : Option D), AccOk m acc → m + ps.length ≤ 300 → (∀ x ∈ ps, Gr DD VV x.2) →
    ∃ a' b', forO (fun x ρ S => match setTg (.tp [2, 3]) x ρ with
      | some ρ => exs Φ fuel (B_gat2 i) ρ S
      | none => .bad) (ps.map pairP) (ρJ pr a b) (SJ acc) = .next (ρJ pr a' b') (SJ (ps.foldl addQ acc)) ∧ AccOk (m + ps.length) (ps.foldl addQ acc)
  | [], acc, m, a, b, h, _, _ => ⟨a, b, rfl, h⟩
  | x :: ps, acc, m, a, b, h, hm, hx => by
    rw [List.length_cons] at hm
    have hx1 := hx x List.mem_cons_self
    obtain ⟨a', b', h1, h2⟩ := loop_gat2 Φ fuel i hi pr ps (addQ acc x) (m + 1) (some (.p (.int x.1))) (some (.p (fr x.2))) (h.add hx1) (by omega) fun y hy => hx y (List.mem_cons_of_mem _ hy)
    refine ⟨a', b', ?_, by rw [List.length_cons]; have e : m + (ps.length + 1) = m + 1 + ps.length := by omega
                           rw [e]; exact h2⟩
    rw [List.map_cons, forO]
    have e1 : setTg (.tp [2, 3]) (pairP x) (ρJ pr a b) = some (ρJ pr (some (.p (.int x.1))) (some (.p (fr x.2)))) := rfl
    rw [e1]
    dsimp only
    rw [step_gat2 Φ fuel i hi h (by omega) hx1]
    exact h1
abbrev lcE2 : IE := .lc false [2] (.tup (.cons (.var 2) (.cons (.o2 .ix (.var 1) (.var 2)) .nil))) (.nm 2) (.seq (.o1 .sortedI (.var 1))) (.tr (.o2 .ne (.o2 .ix (.var 1) (.var 2)) (.tup (.cons (.cst (.int 0)) (.cons (.cst (.int 1)) .nil)))))
theorem ne_fr (p q : Rat) : prim2 .ne (fr p) (fr q) = some (.bl (!decide (p = q))) := by
  show ((match dataOf (fr p), dataOf (fr q) with
    | some d, some e => some (PyData.eqv d e)
    | _, _ => none).map fun r => P.bl (!r)) = _
  rw [data_fr, data_fr]
  dsimp only
  rw [eqv_fr]
  rfl
theorem run_lc2 (Φ : Nat → List Arg → LR) (pr : P) (a b : Option D) {ps : PL} (h : Tame ps) : ev Φ lcE2 (ρJ pr a b) (SJ (gather ps)) = .ok (.p (.lst ((norm ps).map pairP))) (SJ (gather ps)) := by
  have nd := gather_nodup ps
  have fw : ((gather ps).map (·.1)).length ≤ 60 := few nd fun t ht => by
    obtain ⟨x, hx, rfl⟩ := List.mem_map.mp (gat_keys ps t ht)
    exact h.tk x hx
  have vw : view (SJ (gather ps)) (.box 0) = some (dkP (gather ps)) := rfl
  have srt : prim1 .sortedI (dkP (gather ps)) = some (.lst ((sortK ((gather ps).map (·.1))).map .int)) := by
    show (match ikeys (keysP (gather ps)) with
      | some ns => if ns.length < 64 then some (P.lst ((ns.mergeSort (fun a b => decide (a ≤ b))).map .int)) else none
      | none => none) = _
    rw [ikeys_acc]
    dsimp only
    rw [if_pos (by omega)]
    rfl
  have hsrc : evS Φ (.seq (.o1 .sortedI (.var 1))) (ρJ pr a b) (SJ (gather ps)) = .ok ((sortK ((gather ps).map (·.1))).map .int) (SJ (gather ps)) := by
    simp only [evS, ev, List.getElem?_cons_succ, List.getElem?_cons_zero, Res.bind, vw, Option.bind_some, srt, Option.map_some, optR, frz]
  have hm : ∀ t ∈ sortK ((gather ps).map (·.1)), t ∈ (gather ps).map (·.1) := fun t ht => (List.mergeSort_perm _ _).mem_iff.mp ht
  have hll : (sortK ((gather ps).map (·.1))).length = ((gather ps).map (·.1)).length := (List.mergeSort_perm _ _).length_eq
  have hturn := turns_fm (step := stepL [2] (.nm 2) (evT Φ (.tr (.o2 .ne (.o2 .ix (.var 1) (.var 2)) (.tup (.cons (.cst (.int 0)) (.cons (.cst (.int 1)) .nil)))))) (ev Φ (.tup (.cons (.var 2) (.cons (.o2 .ix (.var 1) (.var 2)) .nil)))) (ρJ pr a b)) (f := P.int) (g := fun t => if !decide (getQ (gather ps) t = 0) then some (pairP (t, getQ (gather ps) t)) else none) (items := sortK ((gather ps).map (·.1))) (acc := []) (S := SJ (gather ps)) (fun t ht => by
    have ixa := ix_acc nd (hm t ht)
    have e : setTg (.nm 2) (.int t) (wipeR (ρJ pr a b) [2]) = some (ρJ pr (some (.p (.int t))) b) := rfl
    have n0 := ne_fr (getQ (gather ps) t) 0
    have ixe : ev Φ (.o2 .ix (.var 1) (.var 2)) (ρJ pr (some (.p (.int t))) b) (SJ (gather ps)) = .ok (.p (fr (getQ (gather ps) t))) (SJ (gather ps)) := by
      simp only [ev, List.getElem?_cons_succ, List.getElem?_cons_zero, Res.bind, vw, view_p, Option.bind_some, ixa, Option.map_some, optR]
    have z : ev Φ (.tup (.cons (.cst (.int 0)) (.cons (.cst (.int 1)) .nil))) (ρJ pr (some (.p (.int t))) b) (SJ (gather ps)) = .ok (.p (fr 0)) (SJ (gather ps)) := ev_two (x := .int 0) (y := .int 1) rfl rfl
    have ct : evT Φ (.tr (.o2 .ne (.o2 .ix (.var 1) (.var 2)) (.tup (.cons (.cst (.int 0)) (.cons (.cst (.int 1)) .nil))))) (ρJ pr (some (.p (.int t))) b) (SJ (gather ps)) = .ok (!decide (getQ (gather ps) t = 0)) (SJ (gather ps)) := by
      show (((ev Φ (.o2 .ix (.var 1) (.var 2)) _ _).bind _).bind _) = _
      rw [ixe]
      simp only [Res.bind]
      rw [z]
      simp only [view_p, Option.bind_some, n0, Option.map_some, optR, truth]
    unfold stepL
    rw [e]
    dsimp only
    rw [ct]
    simp only [Res.bind]
    rw [ev_two (x := .int t) (y := fr (getQ (gather ps) t)) (ev_var rfl) ixe]
    cases decide (getQ (gather ps) t = 0) <;> rfl) (by
      simp only [List.length_nil, hll, PySem.sizeLine_eq]
      omega)
  rw [fm_filter (fun t => pairP (t, getQ (gather ps) t)) (fun t => !decide (getQ (gather ps) t = 0))] at hturn
  show (evS Φ (.seq (.o1 .sortedI (.var 1))) _ _).bind _ = _
  rw [hsrc]
  simp only [Res.bind]
  rw [hturn]
  simp [calm, boxIf, cont, optR, norm, Function.comp_def]
def B_plain (i : Nat) : IB := (.cons (.set (.nm 1) .dnew)
      (.cons (.for_ (.tp [2, 3]) (.seq (.var 0)) (B_gat2 i))
      (.cons (.ret true lcE2)
      .nil)))
noncomputable def F_plain : List Arg → LR := F_ps (fun ps => .ok (.p (.lst ((norm ps).map pairP))) []) Tame
theorem plain_1 {ps : PL} (h : Tame ps) (S : Sto) : callA F_plain [D.p (.lst (ps.map pairP))] S = .ok (.p (.lst ((norm ps).map pairP))) S := callA_1 (F_ps_eq h)
theorem says_plain (Φ : Nat → List Arg → LR) (fuel i : Nat) (hi : Φ i = F_ladd) : ∀ as, Says (runB Φ fuel (B_plain i) 4 (numA 0 as) (boxesA as)) (boxesA as).length (F_plain as) := ps_says fun ps h => by
  have h : Tame ps := h
  obtain ⟨a', b', hl, _⟩ := loop_gat2 Φ fuel i hi (.lst (ps.map pairP)) ps [] 0 none none ⟨Nat.le_refl _, fun x hx => by cases hx⟩ (by have := h.len; omega) h.gr
  refine ⟨SJ (gather ps), runB_ret ?_, rfl, rfl⟩
  show exs Φ fuel (B_plain i) [some (.p (.lst (ps.map pairP))), none, none, none] [] = _
  have s1 : ex Φ fuel (.set (.nm 1) .dnew) [some (.p (.lst (ps.map pairP))), none, none, none] [] = .next (ρJ (.lst (ps.map pairP)) none none) (SJ []) := rfl
  have s2 : ex Φ fuel (.for_ (.tp [2, 3]) (.seq (.var 0)) (B_gat2 i)) (ρJ (.lst (ps.map pairP)) none none) (SJ []) = .next (ρJ (.lst (ps.map pairP)) a' b') (SJ (gather ps)) := by
    rw [ex_for (items := ps.map pairP) (S' := SJ []) rfl]
    exact hl
  rw [B_plain, exs_cons, s1]
  dsimp only [Out.andThen]
  rw [exs_cons, s2]
  dsimp only [Out.andThen]
  rw [exs_cons]
  show ((ev Φ lcE2 _ _).out _ _).andThen _ = _
  rw [run_lc2 Φ _ _ _ h]
  rfl
end PD
/-! The law's own defs: product. -/
namespace PD
open PySem (sizeLine PyData)
/-- a comprehension over pairs -/
theorem ev_lcs {Φ : Nat → List Arg → LR} {src : Src} {ρ : List (Option D)} {S : Sto} {α : Type} {f : α → P} {r : List α} (h : evS Φ src ρ S = .ok (r.map f) S) {own : List Nat} {elt : IE} {tg : Tg} {cond : IT} {g : α → Option P}
    (hs : ∀ x ∈ r, stepL own tg (evT Φ cond) (ev Φ elt) ρ (f x) S = .ok (g x) S) (hl : r.length ≤ 1000) :
    ev Φ (.lc false own elt tg src cond) ρ S = .ok (.p (.lst (r.filterMap g))) S := by
  show (evS Φ src ρ S).bind _ = _
  rw [h]
  simp only [Res.bind]
  rw [turns_fm hs (by simp [PySem.sizeLine_eq]; omega)]
  simp [calm, boxIf, cont, optR]
theorem ev_mut {Φ : Nat → List Arg → LR} {o a : IE} {ρ : List (Option D)} {S : Sto} {n : Nat} {l m : List P} (ho : ev Φ o ρ S = .ok (.box n) S) (hn : S[n]? = some (some (.lst l))) (ha : ev Φ a ρ S = .ok (.p (.lst m)) S) (hl : l.length + m.length ≤ sizeLine) :
    ev Φ (.mut .extend o a) ρ S = .ok (.p .non) (S.set n (some (.lst (l ++ m)))) := by
  have mo : mutO .extend (.lst l) (.lst m) = some (.lst (l ++ m)) := by
    show (if _ then some (O.lst _) else none) = _
    rw [if_pos hl]
  have il : isLst S (.box n) = true := by simp [isLst, hn]
  simp only [ev, ho, Res.bind, il, ha, view_p, optR, hn, mo]
  simp
noncomputable def F_pp (g : PL → PL → LR) (dom : PL → PL → Prop) : List Arg → LR := dec (α := PL × PL) (fun x => [.p (.lst (x.1.map pairP)), .p (.lst (x.2.map pairP))]) (fun x => dom x.1 x.2) (fun x => g x.1 x.2)
theorem F_pp_eq {g : PL → PL → LR} {dom : PL → PL → Prop} {r s : PL} (h : dom r s) : F_pp g dom [.p (.lst (r.map pairP)), .p (.lst (s.map pairP))] = g r s := dec_eq (a := (r, s)) (fun a b h => by
    simp only [List.cons.injEq, Arg.p.injEq, and_true] at h
    exact Prod.ext (lstP_inj h.1) (lstP_inj h.2)) h
theorem pp_says {g : PL → PL → LR} {dom : PL → PL → Prop} {r : List Arg → Res D} {k : List Arg → Nat} (h : ∀ p q, dom p q → Says (r [.p (.lst (p.map pairP)), .p (.lst (q.map pairP))]) (k [.p (.lst (p.map pairP)), .p (.lst (q.map pairP))]) (g p q)) (as : List Arg) : Says (r as) (k as) (F_pp g dom as) := dec_says (fun x hx => h x.1 x.2 hx) as
abbrev prdL (t : Nat) : IE := .lc false [5, 6] (.tup (.cons (.o2 .add (.var 3) (.var 5)) (.cons (.call true t [] (.cons (.var 4) (.cons (.var 6) .nil))) .nil))) (.tp [5, 6]) (.seq (.var 1)) .tt
abbrev prdB (t : Nat) : IB := (.cons (.ex (.mut .extend (.var 2) (prdL t)))
      .nil)
def B_prod (t p : Nat) : IB := (.cons (.set (.nm 2) (.lst true .nil))
      (.cons (.for_ (.tp [3, 4]) (.seq (.var 0)) (prdB t))
      (.cons (.ret true (.call true p [] (.cons (.var 2) .nil)))
      .nil)))
noncomputable def F_prod : List Arg → LR := F_pp (fun r s => .ok (.p (.lst ((norm (prodL r s)).map pairP))) []) (fun r s => (Tame r ∧ Tame s) ∧ Tame (prodL r s))
abbrev ρN (r s : PL) (a b : Option D) : List (Option D) := [some (.p (.lst (r.map pairP))), some (.p (.lst (s.map pairP))), some (.box 0), a, b, none, none]
theorem turn_prd (Φ : Nat → List Arg → LR) (fuel t : Nat) (ht : Φ t = F_ltim) (r s acc : PL) (x : Int × Rat) (sx : sm x.2) (ss : ∀ y ∈ s, sm y.2) (hl : acc.length + s.length ≤ 1000) :
    exs Φ fuel (prdB t) (ρN r s (some (.p (.int x.1))) (some (.p (fr x.2)))) (SM acc) = .next (ρN r s (some (.p (.int x.1))) (some (.p (fr x.2)))) (SM (acc ++ mulL x s)) := by
  have e1 := ev_lcs (Φ := Φ) (src := .seq (.var 1)) (ρ := ρN r s (some (.p (.int x.1))) (some (.p (fr x.2)))) (S := SM acc) (r := s) (f := pairP) rfl (own := [5, 6]) (elt := (.tup (.cons (.o2 .add (.var 3) (.var 5)) (.cons (.call true t [] (.cons (.var 4) (.cons (.var 6) .nil))) .nil)))) (tg := .tp [5, 6]) (cond := .tt) (g := fun y => some (pairP (x.1 + y.1, x.2 * y.2))) (fun y hy => by
    have e : setTg (.tp [5, 6]) (pairP y) (wipeR (ρN r s (some (.p (.int x.1))) (some (.p (fr x.2)))) [5, 6]) = some [some (.p (.lst (r.map pairP))), some (.p (.lst (s.map pairP))), some (.box 0), some (.p (.int x.1)), some (.p (fr x.2)), some (.p (.int y.1)), some (.p (fr y.2))] := rfl
    unfold stepL
    rw [e]
    have ct : ev Φ (.call true t [] (.cons (.var 4) (.cons (.var 6) .nil))) [some (.p (.lst (r.map pairP))), some (.p (.lst (s.map pairP))), some (.box 0), some (.p (.int x.1)), some (.p (fr x.2)), some (.p (.int y.1)), some (.p (fr y.2))] (SM acc) = .ok (.p (fr (x.2 * y.2))) (SM acc) := by
      simp [ev, evL, Res.bind, frzL, frz, ht, ltim_2 sx (ss y hy)]
    simp only [evT, Res.bind, if_true]
    rw [ev_two (x := .int (x.1 + y.1)) (y := fr (x.2 * y.2)) (ev_addi (ev_var rfl) (ev_var rfl)) ct]
    rfl) (by omega)
  rw [fm_map, show (s.map fun y => pairP (x.1 + y.1, x.2 * y.2)) = (mulL x s).map pairP by simp [mulL]] at e1
  have e2 := ev_mut (o := .var 2) (n := 0) (l := acc.map pairP) rfl rfl e1 (by simp [mulL, PySem.sizeLine_eq]; omega)
  rw [prdB, exs_cons]
  simp only [ex]
  rw [e2]
  simp only [Res.out, Out.andThen, exs_nil, List.set_cons_zero]
  show Out.next _ [some (.lst (acc.map pairP ++ (mulL x s).map pairP))] = Out.next _ [some (.lst ((acc ++ mulL x s).map pairP))]
  rw [List.map_append]
theorem loop_prd (Φ : Nat → List Arg → LR) (fuel t : Nat) (ht : Φ t = F_ltim) (r s : PL) (ss : ∀ y ∈ s, sm y.2) : ∀ (l acc : PL) (a b : Option D), (∀ x ∈ l, sm x.2) → (acc ++ prodL l s).length ≤ 1000 → ∃ a' b', forO (fun x ρ S => match setTg (.tp [3, 4]) x ρ with
      | some ρ => exs Φ fuel (prdB t) ρ S
      | none => .bad) (l.map pairP) (ρN r s a b) (SM acc) = .next (ρN r s a' b') (SM (acc ++ prodL l s)) := by
  intro l
  induction l with
  | nil =>
    intro acc a b _ _
    exact ⟨a, b, by simp [forO, prodL]⟩
  | cons x l ih =>
    intro acc a b hs hl
    have ep : prodL (x :: l) s = mulL x s ++ prodL l s := by simp [prodL]
    rw [ep, ← List.append_assoc] at hl ⊢
    have hl' : acc.length + s.length ≤ 1000 := by
      simp only [List.length_append, mulL, List.length_map] at hl
      omega
    obtain ⟨a', b', e⟩ := ih (acc ++ mulL x s) (some (.p (.int x.1))) (some (.p (fr x.2))) (fun y hy => hs y (List.mem_cons_of_mem _ hy)) hl
    refine ⟨a', b', ?_⟩
    rw [List.map_cons, forO]
    have e1 : setTg (.tp [3, 4]) (pairP x) (ρN r s a b) = some (ρN r s (some (.p (.int x.1))) (some (.p (fr x.2)))) := rfl
    rw [e1]
    dsimp only
    rw [turn_prd Φ fuel t ht r s acc x (hs x List.mem_cons_self) ss hl']
    exact e
theorem says_prod (Φ : Nat → List Arg → LR) (fuel t p : Nat) (ht : Φ t = F_ltim) (hp : Φ p = F_plain) : ∀ as, Says (runB Φ fuel (B_prod t p) 7 (numA 0 as) (boxesA as)) (boxesA as).length (F_prod as) := pp_says fun r s h => by
  refine ⟨[none], runB_ret ?_, rfl, rfl⟩
  show exs Φ fuel (B_prod t p) [some (.p (.lst (r.map pairP))), some (.p (.lst (s.map pairP))), none, none, none, none, none] [] = _
  obtain ⟨a', b', e⟩ := loop_prd Φ fuel t ht r s (fun y hy => h.1.2.sm hy) r [] none none (fun y hy => h.1.1.sm hy) (by have := h.2.len; simp; omega)
  rw [List.nil_append] at e
  have s2 : ex Φ fuel (.set (.nm 2) (.lst true .nil)) [some (.p (.lst (r.map pairP))), some (.p (.lst (s.map pairP))), none, none, none, none, none] [] = .next (ρN r s none none) (SM []) := by
    simp [ex, ev, evL, Res.bind, Res.out, frzL, boxIf]
  have s3 : ex Φ fuel (.for_ (.tp [3, 4]) (.seq (.var 0)) (prdB t)) (ρN r s none none) (SM []) = .next (ρN r s a' b') (SM (prodL r s)) := by
    rw [ex_for (items := r.map pairP) (S' := SM []) rfl]
    exact e
  have s4 : ev Φ (.call true p [] (.cons (.var 2) .nil)) (ρN r s a' b') (SM (prodL r s)) = .ok (.p (.lst ((norm (prodL r s)).map pairP))) [none] := by
    have f : frz (SM (prodL r s)) (.box 0) = .ok (.lst ((prodL r s).map pairP)) [none] := rfl
    have m := plain_1 h.2 [none]
    simp only [ev, evL, List.getElem?_cons_succ, List.getElem?_cons_zero, Res.bind, frzL, f, hp, if_true, List.map_cons, List.map_nil, List.append_nil]
    exact m
  rw [B_prod, exs_cons, s2]
  dsimp only [Out.andThen]
  rw [exs_cons, s3]
  dsimp only [Out.andThen]
  rw [exs_cons]
  simp only [ex, s4, Res.out, frz, if_true, Out.andThen]
theorem prod_2 {r s : PL} (h : (Tame r ∧ Tame s) ∧ Tame (prodL r s)) (S : Sto) : callA F_prod [D.p (.lst (r.map pairP)), D.p (.lst (s.map pairP))] S = .ok (.p (.lst ((norm (prodL r s)).map pairP))) S := callA_2 (F_pp_eq (dom := fun r s => (Tame r ∧ Tame s) ∧ Tame (prodL r s)) h)
end PD
/-! fraction, and the law's own check of fractions. -/
namespace PD
open PySem (sizeLine PyData)
def B_frac (i j : Nat) : IB := (.cons (.iff (.or (.not (.tr (.call true i [.non, .non] (.cons (.var 0) .nil)))) (.or (.not (.tr (.call true i [.non, .non] (.cons (.var 1) .nil)))) (.tr (.o2 .eq (.var 1) (.cst (.int 0))))))
      (.cons .bad
      .nil)
      .nil)
      (.cons (.ret true (.call true j [] (.cons (.var 0) (.cons (.var 1) .nil))))
      .nil))
noncomputable abbrev F_frac : List Arg → LR := F_simpl
theorem says_frac (Φ : Nat → List Arg → LR) (fuel i j : Nat) (hi : Φ i = F_isint) (hj : Φ j = F_simpl) : ∀ as, Says (runB Φ fuel (B_frac i j) 2 (numA 0 as) (boxesA as)) (boxesA as).length (F_simpl as) := dec_says fun ⟨a, b⟩ ⟨h0, h1, h2⟩ => by
  dsimp only at h0 h1 h2
  refine ⟨[], ?_, rfl, rfl⟩
  have sp := fun S => simpl_2 (S := S) h0 h1 h2
  simp [B_frac, runB, exs, ex, ev, evT, evL, Res.bind, Res.out, Out.andThen, optR, view_p, numA, boxesA, frz, frzL, truth, hi, hj, isint_1, eq_int, h0, sp]
def B_lfr (pl ad ti lt mi fra le ov : Nat) : IB := (.cons (.iff (.or (.tr (.o2 .ne (.call true pl [] (.cons (.var 0) (.cons (.var 1) .nil))) (.call true ad [] (.cons (.var 0) (.cons (.var 1) .nil))))) (.tr (.o2 .ne (.call true ti [] (.cons (.var 0) (.cons (.var 1) .nil))) (.call true lt [] (.cons (.var 0) (.cons (.var 1) .nil))))))
      (.cons (.ret true (.cst (.bl false)))
      .nil)
      .nil)
      (.cons (.iff (.or (.tr (.o2 .ne (.call true mi [] (.cons (.var 0) (.cons (.var 1) .nil))) (.call true ad [] (.cons (.var 0) (.cons (.tup (.cons (.o1 .neg (.o2 .ix (.var 1) (.cst (.int 0)))) (.cons (.o2 .ix (.var 1) (.cst (.int 1))) .nil))) .nil))))) (.tr (.o2 .ne (.call true fra [] (.cons (.o2 .mul (.cst (.int 3)) (.o2 .ix (.var 0) (.cst (.int 0)))) (.cons (.o2 .mul (.cst (.int 3)) (.o2 .ix (.var 0) (.cst (.int 1)))) .nil))) (.var 0))))
      (.cons (.ret true (.cst (.bl false)))
      .nil)
      .nil)
      (.cons (.iff (.tr (.o2 .ne (.call true le [] (.cons (.var 0) (.cons (.var 1) .nil))) (.o2 .lt (.o2 .mul (.o2 .ix (.var 0) (.cst (.int 0))) (.o2 .ix (.var 1) (.cst (.int 1)))) (.o2 .mul (.o2 .ix (.var 1) (.cst (.int 0))) (.o2 .ix (.var 0) (.cst (.int 1)))))))
      (.cons (.ret true (.cst (.bl false)))
      .nil)
      .nil)
      (.cons (.ret true (.or (.o2 .eq (.o2 .ix (.var 1) (.cst (.int 0))) (.cst (.int 0))) (.o2 .eq (.call true ti [] (.cons (.call true ov [] (.cons (.var 0) (.cons (.var 1) .nil))) (.cons (.var 1) .nil))) (.var 0))))
      .nil))))
noncomputable def F_lfr : List Arg → LR := F_two (fun _ _ => .ok (.p (.bl true)) []) (fun p q => sm2 p q ∧ sm (p / q))
theorem eq_fr (p q : Rat) : prim2 .eq (fr p) (fr q) = some (.bl (decide (p = q))) := by
  show ((match dataOf (fr p), dataOf (fr q) with
    | some d, some e => some (PyData.eqv d e)
    | _, _ => none).map P.bl) = _
  rw [data_fr, data_fr]
  dsimp only
  rw [eqv_fr]
  rfl
theorem ne_same (p : Rat) : prim2 .ne (fr p) (fr p) = some (.bl false) := by rw [ne_fr, decide_eq_true rfl]; rfl
theorem ev_ix0 {Φ : Nat → List Arg → LR} {v : Nat} {ρ : List (Option D)} {S : Sto} {q : Rat} (h : ρ[v]? = some (some (.p (fr q)))) : ev Φ (.o2 .ix (.var v) (.cst (.int 0))) ρ S = .ok (.p (.int q.num)) S := by
  have x0 : prim2 .ix (fr q) (.int 0) = some (.int q.num) := ix0 _ _
  simp only [ev, h, Res.bind, view_p, Option.bind_some, x0, Option.map_some, optR]
theorem ev_ix1 {Φ : Nat → List Arg → LR} {v : Nat} {ρ : List (Option D)} {S : Sto} {q : Rat} (h : ρ[v]? = some (some (.p (fr q)))) : ev Φ (.o2 .ix (.var v) (.cst (.int 1))) ρ S = .ok (.p (.int q.den)) S := by
  have x0 : prim2 .ix (fr q) (.int 1) = some (.int q.den) := ix1 _ _
  simp only [ev, h, Res.bind, view_p, Option.bind_some, x0, Option.map_some, optR]
theorem ev_o2 {Φ : Nat → List Arg → LR} {o : Op2} {a b : IE} {ρ : List (Option D)} {S : Sto} {x y z : P} (ha : ev Φ a ρ S = .ok (.p x) S) (hb : ev Φ b ρ S = .ok (.p y) S) (h : prim2 o x y = some z) : ev Φ (.o2 o a b) ρ S = .ok (.p z) S := by
  simp only [ev, ha, hb, Res.bind, view_p, Option.bind_some, h, Option.map_some, optR]
theorem ev_c2 {Φ : Nat → List Arg → LR} {i : Nat} {a b : IE} {ρ : List (Option D)} {S : Sto} {x y z : P} (ha : ev Φ a ρ S = .ok (.p x) S) (hb : ev Φ b ρ S = .ok (.p y) S) (h : ∀ S, callA (Φ i) [D.p x, D.p y] S = .ok (.p z) S) : ev Φ (.call true i [] (.cons a (.cons b .nil))) ρ S = .ok (.p z) S := by
  simp only [ev, evL, ha, hb, Res.bind, if_true, frzL, frz, List.map_cons, List.map_nil, List.append_nil]
  exact h S
theorem ev_o1 {Φ : Nat → List Arg → LR} {o : Op1} {a : IE} {ρ : List (Option D)} {S : Sto} {x z : P} (ha : ev Φ a ρ S = .ok (.p x) S) (h : prim1 o x = some z) : ev Φ (.o1 o a) ρ S = .ok (.p z) S := by
  simp only [ev, ha, Res.bind, view_p, Option.bind_some, h, Option.map_some, optR]
theorem ev_or1 {Φ : Nat → List Arg → LR} {a b : IE} {ρ : List (Option D)} {S : Sto} (ha : ev Φ a ρ S = .ok (.p (.bl true)) S) : ev Φ (.or a b) ρ S = .ok (.p (.bl true)) S := by
  simp only [ev, ha, Res.bind]
theorem ev_or0 {Φ : Nat → List Arg → LR} {a b : IE} {ρ : List (Option D)} {S : Sto} (ha : ev Φ a ρ S = .ok (.p (.bl false)) S) : ev Φ (.or a b) ρ S = ev Φ b ρ S := by
  simp only [ev, ha, Res.bind]
theorem evT_p {Φ : Nat → List Arg → LR} {a : IE} {ρ : List (Option D)} {S : Sto} {b : Bool} (ha : ev Φ a ρ S = .ok (.p (.bl b)) S) : evT Φ (.tr a) ρ S = .ok b S := by
  simp only [evT, ha, Res.bind, view_p, Option.bind_some, truth, optR]
theorem evT_or0 {Φ : Nat → List Arg → LR} {t u : IT} {ρ : List (Option D)} {S : Sto} {r : Res Bool} (ht : evT Φ t ρ S = .ok false S) (hu : evT Φ u ρ S = r) : evT Φ (.or t u) ρ S = r := by
  simp only [evT, ht, Res.bind, Bool.false_eq_true, if_false, hu]
theorem ex_if0 {Φ : Nat → List Arg → LR} {fuel : Nat} {c : IT} {a : IB} {ρ : List (Option D)} {S : Sto} (h : evT Φ c ρ S = .ok false S) : ex Φ fuel (.iff c a .nil) ρ S = .next ρ S := by
  simp only [ex, h, Res.out, Bool.false_eq_true, if_false, exs]
theorem says_lfr (Φ : Nat → List Arg → LR) (fuel pl ad ti lt mi fra le ov : Nat) (h1 : Φ pl = F_plus) (h2 : Φ ad = F_ladd) (h3 : Φ ti = F_times) (h4 : Φ lt = F_ltim) (h5 : Φ mi = F_minus) (h6 : Φ fra = F_frac) (h7 : Φ le = F_less) (h8 : Φ ov = F_over) : ∀ as, Says (runB Φ fuel (B_lfr pl ad ti lt mi fra le ov) 2 (numA 0 as) (boxesA as)) (boxesA as).length (F_lfr as) := two_says fun p q h => by
  obtain ⟨⟨hp, hq⟩, hd⟩ := h
  refine ⟨[], runB_ret ?_, rfl, rfl⟩
  show exs Φ fuel (B_lfr pl ad ti lt mi fra le ov) [some (.p (fr p)), some (.p (fr q))] [] = _
  have v0 : ∀ S, ev Φ (.var 0) [some (.p (fr p)), some (.p (fr q))] S = .ok (.p (fr p)) S := fun S => rfl
  have v1 : ∀ S, ev Φ (.var 1) [some (.p (fr p)), some (.p (fr q))] S = .ok (.p (fr q)) S := fun S => rfl
  have t1 := ex_if0 (Φ := Φ) (fuel := fuel) (a := .cons (.ret true (.cst (.bl false))) .nil) (evT_or0 (evT_p (ev_o2 (o := .ne) (ev_c2 (v0 []) (v1 []) fun S => by rw [h1]; exact plus_2 hp hq S) (ev_c2 (v0 []) (v1 []) fun S => by rw [h2]; exact ladd_2 hp hq S) (ne_same _))) (evT_p (ev_o2 (o := .ne) (ev_c2 (v0 []) (v1 []) fun S => by rw [h3]; exact times_2 hp hq S) (ev_c2 (v0 []) (v1 []) fun S => by rw [h4]; exact ltim_2 hp hq S) (ne_same _))))
  rw [B_lfr, exs_cons, t1]
  dsimp only [Out.andThen]
  have nq : sm (-q) := ⟨by rw [Rat.neg_num, Int.natAbs_neg]; exact hq.1, by rw [Rat.neg_den]; exact hq.2⟩
  have eneg : ∀ S, ev Φ (.tup (.cons (.o1 .neg (.o2 .ix (.var 1) (.cst (.int 0)))) (.cons (.o2 .ix (.var 1) (.cst (.int 1))) .nil))) [some (.p (fr p)), some (.p (fr q))] S = .ok (.p (fr (-q))) S := fun S => by
    rw [ev_two (x := .int (-q.num)) (y := .int q.den) _ (ev_ix1 rfl)]
    · rw [fr, Rat.neg_num, Rat.neg_den]
    · exact ev_o1 (ev_ix0 (q := q) rfl) rfl
  have sub : p + -q = p - q := (Rat.sub_eq_add_neg p q).symm
  have c3 : ∀ x : Rat, sm x → ∀ S, callA F_frac [D.p (.int (3 * x.num)), D.p (.int (3 * (x.den : Int)))] S = .ok (.p (fr x)) S := fun x hx S => by
    have e4 : (2 : Nat) ^ 4000 * 4 ≤ 2 ^ 8500 := by
      have : (2 : Nat) ^ 4000 * 4 = 2 ^ 4002 := by rw [Nat.pow_add 2 4000 2]
      rw [this]
      exact Nat.pow_le_pow_right (by omega) (by omega)
    have b1 : (3 * x.num).natAbs < 2 ^ 8500 := by
      have := hx.1
      generalize (2 : Nat) ^ 4000 = z at *
      generalize (2 : Nat) ^ 8500 = y at *
      omega
    have b2 : (3 * (x.den : Int)).natAbs < 2 ^ 8500 := by
      have := hx.2
      generalize (2 : Nat) ^ 4000 = z at *
      generalize (2 : Nat) ^ 8500 = y at *
      omega
    have := x.den_pos
    have s := simpl_2 (a := 3 * x.num) (b := 3 * (x.den : Int)) (by omega) b1 b2 S
    rw [Rat.divInt_mul_left (by decide), Rat.num_divInt_den] at s
    exact s
  have i3 : ∀ x : Rat, sm x → prim2 .mul (.int 3) (.int x.num) = some (.int (3 * x.num)) ∧ prim2 .mul (.int 3) (.int x.den) = some (.int (3 * (x.den : Int))) := fun x hx => ⟨mul_ok (small_ok (by decide)) (pow_ok hx.1), mul_ok (small_ok (by decide)) (by rw [Int.natAbs_natCast]; exact pow_ok hx.2)⟩
  have t2 := ex_if0 (Φ := Φ) (fuel := fuel) (a := .cons (.ret true (.cst (.bl false))) .nil) (evT_or0 (evT_p (ev_o2 (o := .ne) (ev_c2 (v0 []) (v1 []) fun S => by rw [h5]; exact callA_2 (F_two_eq (dom := sm2) ⟨hp, hq⟩)) (ev_c2 (v0 []) (eneg []) fun S => by rw [h2]; exact ladd_2 hp nq S) (by rw [sub]; exact ne_same _))) (evT_p (ev_o2 (o := .ne) (ev_c2 (ev_o2 (o := .mul) (a := .cst (.int 3)) rfl (ev_ix0 (v := 0) (q := p) rfl) (i3 p hp).1) (ev_o2 (o := .mul) (a := .cst (.int 3)) rfl (ev_ix1 (v := 0) (q := p) rfl) (i3 p hp).2) fun S => by rw [h6]; exact c3 p hp S) (v0 []) (ne_same _))))
  rw [exs_cons, t2]
  dsimp only [Out.andThen]
  have ml : prim2 .mul (.int p.num) (.int q.den) = some (.int (p.num * q.den)) := mul_ok (pow_ok hp.1) (by rw [Int.natAbs_natCast]; exact pow_ok hq.2)
  have mr : prim2 .mul (.int q.num) (.int p.den) = some (.int (q.num * p.den)) := mul_ok (pow_ok hq.1) (by rw [Int.natAbs_natCast]; exact pow_ok hp.2)
  have ne_b : ∀ b : Bool, prim2 .ne (.bl b) (.bl b) = some (.bl false) := fun b => by cases b <;> rfl
  have t3 := ex_if0 (Φ := Φ) (fuel := fuel) (a := .cons (.ret true (.cst (.bl false))) .nil) (evT_p (ev_o2 (o := .ne) (ev_c2 (v0 []) (v1 []) fun S => by rw [h7]; exact callA_2 (F_two_eq (dom := sm2) ⟨hp, hq⟩)) (ev_o2 (o := .lt) (ev_o2 (o := .mul) (ev_ix0 (v := 0) (q := p) rfl) (ev_ix1 (v := 1) (q := q) rfl) ml) (ev_o2 (o := .mul) (ev_ix0 (v := 1) (q := q) rfl) (ev_ix1 (v := 0) (q := p) rfl) mr) (show prim2 .lt (.int (p.num * q.den)) (.int (q.num * p.den)) = some (.bl (decide (p < q))) from by
    show some (P.bl (decide _)) = _
    rw [decide_eq_decide.mpr (Rat.lt_iff p q).symm])) (ne_b _)))
  rw [exs_cons, t3]
  dsimp only [Out.andThen]
  rw [exs_cons]
  have fin : ev Φ (.or (.o2 .eq (.o2 .ix (.var 1) (.cst (.int 0))) (.cst (.int 0))) (.o2 .eq (.call true ti [] (.cons (.call true ov [] (.cons (.var 0) (.cons (.var 1) .nil))) (.cons (.var 1) .nil))) (.var 0))) [some (.p (fr p)), some (.p (fr q))] [] = .ok (.p (.bl true)) [] := by
    have f1 := ev_o2 (Φ := Φ) (o := .eq) (ρ := [some (.p (fr p)), some (.p (fr q))]) (S := []) (ev_ix0 (v := 1) (q := q) rfl) (show ev Φ (.cst (.int 0)) _ _ = .ok (.p (.int 0)) _ from rfl) (eq_int q.num 0)
    by_cases c : q = 0
    · subst c
      exact ev_or1 f1
    · have cn : (q.num == 0) = false := by rw [beq_eq_false_iff_ne]; exact fun z => c (Rat.num_eq_zero.mp z)
      rw [cn] at f1
      rw [ev_or0 f1]
      have mm : p / q * q = p := Rat.div_mul_cancel c
      exact ev_o2 (o := .eq) (ev_c2 (ev_c2 (v0 []) (v1 []) fun S => by rw [h8]; exact callA_2 (F_two_eq (dom := fun p q => sm p ∧ sm q ∧ q ≠ 0) ⟨hp, hq, c⟩)) (v1 []) fun S => by rw [h3]; exact times_2 hd hq S) (v0 []) (by rw [eq_fr, mm, decide_eq_true rfl])
  simp only [ex, fin, Res.out, frz, if_true, Out.andThen]
end PD
/-! The law's own defs: pairs drawn. -/
namespace PD
open PySem (sizeLine PyData)
theorem ev_draw {Φ : Nat → List Arg → LR} {i v n : Nat} (hi : Φ i = F_draw) {e : IE} {ρ : List (Option D)} {S : Sto} {c k m : Int} (hv : ρ[v]? = some (some (.box n))) (he : ev Φ e ρ S = .ok (.p (.int m)) S) (hn : S[n]? = some (some (bagP c k))) (h : k.natAbs < 2 ^ 50 ∧ 0 < m ∧ m.natAbs < 2 ^ 60) :
    ev Φ (.call false i [] (.cons (.var v) (.cons e .nil))) ρ S = .ok (.p (.int (drawD c k m))) (S.set n (some (bagP (drawC c m) (k + 1)))) := by
  have ta : toArgs S [.box n, .p (.int m)] = some ([.o (bagP c k), .p (.int m)], [n]) := by
    simp [toArgs, hn]
  have cA : callA (Φ i) [.box n, .p (.int m)] S = .ok (.p (.int (drawD c k m))) (S.set n (some (bagP (drawC c m) (k + 1)))) := by
    unfold callA
    rw [ta]
    dsimp only
    rw [if_pos ⟨by simp, by simp [boxesA, purO, O.pure, bagP]⟩, hi, F_draw_eq h]
    dsimp only
    rw [if_pos ⟨rfl, by simp [O.pure, bagP]⟩]
    rfl
  simp only [ev, evL, hv, he, Res.bind, Bool.false_eq_true, if_false, List.map_nil, List.append_nil]
  exact cA
/-- one pair drawn: the pair, the bag's number behind it -/
def pairS (c k : Int) : (Int × Rat) × Int := ((drawD c k 5, Rat.divInt (drawD (drawC c 5) (k + 1) 9 - 4) (1 + drawD (drawC (drawC c 5) 9) (k + 1 + 1) 6)), drawC (drawC (drawC c 5) 9) 6)
def loopS : Nat → PL → Int → Int → PL × Int × Int
  | 0, acc, c, k => (acc, c, k)
  | n + 1, acc, c, k => loopS n (acc ++ [(pairS c k).1]) (pairS c k).2 (k + 3)
/-- the pairs drawn, the bag behind them -/
def pairsS (c k : Int) : PL × Int × Int := loopS (drawD c k 6).toNat [] (drawC c 6) (k + 1)
theorem pairS_gr (c k : Int) : (0 ≤ (pairS c k).1.1 ∧ (pairS c k).1.1 < 5) ∧ Gr 60 4 (pairS c k).1.2 := by
  have h1 := draw_range (c := c) (k := k) (m := 5) (by decide)
  have h2 := draw_range (c := drawC c 5) (k := k + 1) (m := 9) (by decide)
  have h3 := draw_range (c := drawC (drawC c 5) 9) (k := k + 1 + 1) (m := 6) (by decide)
  refine ⟨h1, ?_⟩
  show Gr 60 4 (Rat.divInt (drawD (drawC c 5) (k + 1) 9 - 4) (1 + drawD (drawC (drawC c 5) 9) (k + 1 + 1) 6))
  generalize drawD (drawC c 5) (k + 1) 9 = a at h2 ⊢
  generalize drawD (drawC (drawC c 5) 9) (k + 1 + 1) 6 = b at h3 ⊢
  have key : ∀ d e : Int, 0 < d → d * e = 60 → Gr 60 4 (Rat.divInt (a - 4) d) := fun d e hd he => by
    have he0 : e ≠ 0 := fun z => by rw [z] at he; omega
    refine ⟨(a - 4) * e, ?_, ?_⟩
    · show _ = Rat.divInt ((a - 4) * e) 60
      rw [← he, Rat.divInt_mul_right he0]
    · have e1 : e ≤ 60 := by
        have : 1 * e ≤ d * e ∨ e < 0 := by
          by_cases z : e < 0
          · exact .inr z
          · exact .inl (Int.mul_le_mul_of_nonneg_right (by omega) (by omega))
        omega
      have e2 : 0 < e := by
        by_cases z : 0 < e
        · exact z
        · have := Int.mul_nonpos_of_nonneg_of_nonpos (Int.le_of_lt hd) (by omega : e ≤ 0)
          omega
      rw [Int.natAbs_mul]
      calc (a - 4).natAbs * e.natAbs ≤ 4 * 60 := Nat.mul_le_mul (by omega) (by omega)
        _ = 4 * 60 := rfl
  have : b = 0 ∨ b = 1 ∨ b = 2 ∨ b = 3 ∨ b = 4 ∨ b = 5 := by omega
  rcases this with rfl | rfl | rfl | rfl | rfl | rfl
  · exact key (1 + 0) 60 (by decide) (by decide)
  · exact key (1 + 1) 30 (by decide) (by decide)
  · exact key (1 + 2) 20 (by decide) (by decide)
  · exact key (1 + 3) 15 (by decide) (by decide)
  · exact key (1 + 4) 12 (by decide) (by decide)
  · exact key (1 + 5) 10 (by decide) (by decide)
theorem ev_c2s {Φ : Nat → List Arg → LR} {i : Nat} {a b : IE} {ρ : List (Option D)} {S S1 S2 : Sto} {x y z : P} (ha : ev Φ a ρ S = .ok (.p x) S1) (hb : ev Φ b ρ S1 = .ok (.p y) S2) (h : callA (Φ i) [D.p x, D.p y] S2 = .ok (.p z) S2) : ev Φ (.call true i [] (.cons a (.cons b .nil))) ρ S = .ok (.p z) S2 := by
  simp only [ev, evL, ha, hb, Res.bind, if_true, frzL, frz, List.map_cons, List.map_nil, List.append_nil]
  exact h
abbrev lprE (d lo : Nat) : IE := (.tup (.cons (.call false d [] (.cons (.var 0) (.cons (.cst (.int 5)) .nil))) (.cons (.call true lo [] (.cons (.o2 .sub (.call false d [] (.cons (.var 0) (.cons (.cst (.int 9)) .nil))) (.cst (.int 4))) (.cons (.o2 .add (.cst (.int 1)) (.call false d [] (.cons (.var 0) (.cons (.cst (.int 6)) .nil)))) .nil))) .nil)))
abbrev lprB (d lo : Nat) : IB := (.cons (.ex (.mut .append (.var 1) (lprE d lo)))
      .nil)
def B_lpr (d lo : Nat) : IB := (.cons (.set (.nm 1) (.lst true .nil))
      (.cons (.for_ (.nm 2) (.rng1 (.call false d [] (.cons (.var 0) (.cons (.cst (.int 6)) .nil)))) (lprB d lo))
      (.cons (.ret true (.var 1))
      .nil)))
abbrev SP (c k : Int) (l : PL) : Sto := [some (bagP c k), some (.lst (l.map pairP))]
abbrev ρP (a : Option D) : List (Option D) := [some (.box 0), some (.box 1), a]
theorem ev_pair1 (Φ : Nat → List Arg → LR) (d lo : Nat) (hd : Φ d = F_draw) (hl : Φ lo = F_low) (c k : Int) (l : PL) (a : Option D) (hk : k.natAbs < 2 ^ 49) : ev Φ (lprE d lo) (ρP a) (SP c k l) = .ok (.p (pairP (pairS c k).1)) (SP (pairS c k).2 (k + 3) l) := by
  have d1 := ev_draw (Φ := Φ) hd (v := 0) (n := 0) (e := .cst (.int 5)) (ρ := ρP a) (S := SP c k l) (c := c) (k := k) (m := 5) rfl rfl rfl ⟨by omega, by decide, by decide⟩
  have d2 := ev_draw (Φ := Φ) hd (v := 0) (n := 0) (e := .cst (.int 9)) (ρ := ρP a) (S := SP (drawC c 5) (k + 1) l) (c := drawC c 5) (k := k + 1) (m := 9) rfl rfl rfl ⟨by omega, by decide, by decide⟩
  have d3 := ev_draw (Φ := Φ) hd (v := 0) (n := 0) (e := .cst (.int 6)) (ρ := ρP a) (S := SP (drawC (drawC c 5) 9) (k + 1 + 1) l) (c := drawC (drawC c 5) 9) (k := k + 1 + 1) (m := 6) rfl rfl rfl ⟨by omega, by decide, by decide⟩
  have e3 : k + 1 + 1 + 1 = k + 3 := by omega
  have r2 := draw_range (c := drawC c 5) (k := k + 1) (m := 9) (by decide)
  have r3 := draw_range (c := drawC (drawC c 5) 9) (k := k + 1 + 1) (m := 6) (by decide)
  have lo2 := fun S => low_2 (a := drawD (drawC c 5) (k + 1) 9 - 4) (b := 1 + drawD (drawC (drawC c 5) 9) (k + 1 + 1) 6) ⟨by omega, Nat.lt_of_lt_of_le (show _ < 2 ^ 10 by omega) (Nat.pow_le_pow_right (by omega) (by omega))⟩ S
  have x2 : ev Φ (.o2 .sub (.call false d [] (.cons (.var 0) (.cons (.cst (.int 9)) .nil))) (.cst (.int 4))) (ρP a) (SP (drawC c 5) (k + 1) l) = .ok (.p (.int (drawD (drawC c 5) (k + 1) 9 - 4))) (SP (drawC (drawC c 5) 9) (k + 1 + 1) l) := by
    show (ev Φ (.call false d [] (.cons (.var 0) (.cons (.cst (.int 9)) .nil))) _ _).bind _ = _
    rw [d2]
    rfl
  have x3 : ev Φ (.o2 .add (.cst (.int 1)) (.call false d [] (.cons (.var 0) (.cons (.cst (.int 6)) .nil)))) (ρP a) (SP (drawC (drawC c 5) 9) (k + 1 + 1) l) = .ok (.p (.int (1 + drawD (drawC (drawC c 5) 9) (k + 1 + 1) 6))) (SP (drawC (drawC (drawC c 5) 9) 6) (k + 1 + 1 + 1) l) := by
    show (ev Φ (.call false d [] (.cons (.var 0) (.cons (.cst (.int 6)) .nil))) _ _).bind _ = _
    rw [d3]
    rfl
  have x4 : ev Φ (.call true lo [] (.cons (.o2 .sub (.call false d [] (.cons (.var 0) (.cons (.cst (.int 9)) .nil))) (.cst (.int 4))) (.cons (.o2 .add (.cst (.int 1)) (.call false d [] (.cons (.var 0) (.cons (.cst (.int 6)) .nil)))) .nil))) (ρP a) (SP (drawC c 5) (k + 1) l) = .ok (.p (fr (pairS c k).1.2)) (SP (pairS c k).2 (k + 3) l) := by
    rw [e3] at x3
    exact ev_c2s x2 x3 (by rw [hl, lo2]; rfl)
  show (((ev Φ (.call false d [] (.cons (.var 0) (.cons (.cst (.int 5)) .nil))) _ _).bind _).bind _) = _
  rw [d1]
  simp only [Res.bind, evL]
  rw [show (SP c k l).set 0 (some (bagP (drawC c 5) (k + 1))) = SP (drawC c 5) (k + 1) l from rfl, x4]
  simp only [Res.bind, frzL, frz]
  exact if_pos two_le
theorem ev_mapp {Φ : Nat → List Arg → LR} {o a : IE} {ρ : List (Option D)} {S S' : Sto} {n : Nat} {l l' : List P} {x : P} (ho : ev Φ o ρ S = .ok (.box n) S) (hn : S[n]? = some (some (.lst l'))) (ha : ev Φ a ρ S = .ok (.p x) S') (hn' : S'[n]? = some (some (.lst l))) (hl : l.length < sizeLine) :
    ev Φ (.mut .append o a) ρ S = .ok (.p .non) (S'.set n (some (.lst (l ++ [x])))) := by
  have mo : mutO .append (.lst l) x = some (.lst (l ++ [x])) := by
    show (if _ then some (O.lst _) else none) = _
    rw [if_pos hl]
  have il : isLst S (.box n) = true := by simp [isLst, hn]
  simp only [ev, ho, Res.bind, il, ha, frz, hn', mo]
  simp
theorem loop_lpr (Φ : Nat → List Arg → LR) (fuel d lo : Nat) (hd : Φ d = F_draw) (hl : Φ lo = F_low) : ∀ (its : List P) (acc : PL) (c k : Int) (a : Option D), k.natAbs + 3 * its.length < 2 ^ 49 → acc.length + its.length ≤ 1000 → ∃ a', forO (fun x ρ S => match setTg (.nm 2) x ρ with
      | some ρ => exs Φ fuel (lprB d lo) ρ S
      | none => .bad) its (ρP a) (SP c k acc) = .next (ρP a') (SP (loopS its.length acc c k).2.1 (loopS its.length acc c k).2.2 (loopS its.length acc c k).1) := by
  intro its
  induction its with
  | nil =>
    intro acc c k a _ _
    exact ⟨a, rfl⟩
  | cons x its ih =>
    intro acc c k a hk hn
    rw [List.length_cons] at hk hn
    obtain ⟨a', e⟩ := ih (acc ++ [(pairS c k).1]) (pairS c k).2 (k + 3) (some (.p x)) (by omega) (by simp; omega)
    refine ⟨a', ?_⟩
    rw [forO]
    have e1 : setTg (.nm 2) x (ρP a) = some (ρP (some (.p x))) := rfl
    rw [e1]
    dsimp only
    have e2 := ev_mapp (Φ := Φ) (o := .var 1) (a := lprE d lo) (ρ := ρP (some (.p x))) (S := SP c k acc) (n := 1) (l := acc.map pairP) rfl rfl (ev_pair1 Φ d lo hd hl c k acc (some (.p x)) (by omega)) rfl (by simp [PySem.sizeLine_eq]; omega)
    have e3 : exs Φ fuel (lprB d lo) (ρP (some (.p x))) (SP c k acc) = .next (ρP (some (.p x))) (SP (pairS c k).2 (k + 3) (acc ++ [(pairS c k).1])) := by
      rw [lprB, exs_cons]
      simp only [ex]
      rw [e2]
      simp only [Res.out, Out.andThen, exs_nil, List.set_cons_zero, List.set_cons_succ]
      show Out.next _ [some (bagP _ _), some (.lst (acc.map pairP ++ [pairP (pairS c k).1]))] = Out.next _ [some (bagP _ _), some (.lst ((acc ++ [(pairS c k).1]).map pairP))]
      rw [List.map_append]
      rfl
    rw [e3]
    exact e
noncomputable def F_lpr : List Arg → LR := dec (α := Int × Int) (fun x => [.o (bagP x.1 x.2)]) (fun x => x.2.natAbs < 2 ^ 40) (fun x => .ok (.p (.lst ((pairsS x.1 x.2).1.map pairP))) [bagP (pairsS x.1 x.2).2.1 (pairsS x.1 x.2).2.2])
theorem F_lpr_eq {c k : Int} (h : k.natAbs < 2 ^ 40) : F_lpr [.o (bagP c k)] = .ok (.p (.lst ((pairsS c k).1.map pairP))) [bagP (pairsS c k).2.1 (pairsS c k).2.2] := dec_eq (a := (c, k)) (fun a b h => by
  simp only [List.cons.injEq, Arg.o.injEq, and_true] at h
  exact Prod.ext (bagP_inj h).1 (bagP_inj h).2) h
theorem says_lpr (Φ : Nat → List Arg → LR) (fuel d lo : Nat) (hd : Φ d = F_draw) (hl : Φ lo = F_low) : ∀ as, Says (runB Φ fuel (B_lpr d lo) 3 (numA 0 as) (boxesA as)) (boxesA as).length (F_lpr as) := dec_says fun ⟨c, k⟩ h => by
  have h : k.natAbs < 2 ^ 40 := h
  refine ⟨[some (bagP (pairsS c k).2.1 (pairsS c k).2.2), none], runB_ret ?_, rfl, rfl⟩
  show exs Φ fuel (B_lpr d lo) [some (.box 0), none, none] [some (bagP c k)] = _
  have r := draw_range (c := c) (k := k) (m := 6) (by decide)
  have s1 : ex Φ fuel (.set (.nm 1) (.lst true .nil)) [some (.box 0), none, none] [some (bagP c k)] = .next (ρP none) (SP c k []) := by
    simp [ex, ev, evL, Res.bind, Res.out, frzL, boxIf]
  have d1 := ev_draw (Φ := Φ) hd (v := 0) (n := 0) (e := .cst (.int 6)) (ρ := ρP none) (S := SP c k []) (c := c) (k := k) (m := 6) rfl rfl rfl ⟨by omega, by decide, by decide⟩
  have hs : evS Φ (.rng1 (.call false d [] (.cons (.var 0) (.cons (.cst (.int 6)) .nil)))) (ρP none) (SP c k []) = .ok (rng 0 (drawD c k 6)) (SP (drawC c 6) (k + 1) []) := by
    show (ev Φ (.call false d [] (.cons (.var 0) (.cons (.cst (.int 6)) .nil))) _ _).bind _ = _
    rw [d1]
    have sm62 : small62 (drawD c k 6) = true := by
      unfold small62
      rw [decide_eq_true (by omega), decide_eq_true (by omega)]
      rfl
    simp only [Res.bind, sm62, if_true]
    rfl
  have ln : (rng 0 (drawD c k 6)).length = (drawD c k 6).toNat := by simp [rng]
  obtain ⟨a', e⟩ := loop_lpr Φ fuel d lo hd hl (rng 0 (drawD c k 6)) [] (drawC c 6) (k + 1) none (by rw [ln]; omega) (by rw [ln]; simp; omega)
  rw [ln] at e
  rw [B_lpr, exs_cons, s1]
  dsimp only [Out.andThen]
  rw [exs_cons, ex_for hs]
  refine (congrArg (fun o => Out.andThen o fun ρ S => exs Φ fuel (.cons (.ret true (.var 1)) .nil) ρ S) e).trans ?_
  rfl
end PD
/-! Rows: sizes of sums; canonical rows. -/
namespace PD
open PySem (sizeLine PyData)
theorem sumAt_gr {D V : Nat} (hd : D ≠ 0) (t : Int) : ∀ {ps : PL}, (∀ x ∈ ps, Gr D V x.2) → Gr D (ps.length * V) (sumAt ps t)
  | [], _ => by
    show Gr D _ 0
    exact Gr.zero _ _
  | x :: ps, h => by
    have ih := sumAt_gr (D := D) (V := V) hd t (ps := ps) fun y hy => h y (List.mem_cons_of_mem _ hy)
    have hx : Gr D V (x.2 * delta t x.1) := by
      unfold delta
      split
      · rw [Rat.mul_one]; exact h x List.mem_cons_self
      · rw [Rat.mul_zero]; exact Gr.zero _ _
    have := Gr.add hd hx ih
    rw [List.length_cons, Nat.add_mul, Nat.one_mul, Nat.add_comm]
    exact this
theorem norm_val {ps : PL} {x : Int × Rat} (hx : x ∈ norm ps) : x.1 ∈ ps.map (·.1) ∧ x.2 = sumAt ps x.1 := by
  unfold norm at hx
  obtain ⟨t, ht, rfl⟩ := List.mem_map.mp hx
  have h1 := (List.mergeSort_perm _ _).mem_iff.mp (List.mem_filter.mp ht).1
  refine ⟨gat_keys ps t h1, ?_⟩
  show getQ (gather ps) t = _
  rw [get_at (gather_nodup ps)]
  exact gather_pair ps _
theorem norm_few {ps : PL} (h : ∀ x ∈ ps, 0 ≤ x.1 ∧ x.1 < 60) : (norm ps).length ≤ 60 := by
  have := few (norm_can ps).nodup fun t ht => by
    obtain ⟨x, hx, rfl⟩ := List.mem_map.mp ht
    obtain ⟨y, hy, e⟩ := List.mem_map.mp (norm_val hx).1
    rw [← e]
    exact h y hy
  simpa using this
theorem can_move {r : PL} (h : Can r) (t : Int) : Can (moveL r t) := by
  refine ⟨?_, fun x hx => ?_⟩
  · unfold moveL
    rw [List.pairwise_map]
    exact h.asc.imp fun {a b} hab => by dsimp only; omega
  · unfold moveL at hx
    obtain ⟨y, hy, rfl⟩ := List.mem_map.mp hx
    exact h.nz y hy
theorem can_filter {r : PL} (h : Can r) (c : Int × Rat → Bool) : Can (r.filter c) := ⟨h.asc.filter _, fun x hx => h.nz x (List.mem_filter.mp hx).1⟩
theorem can_one (t : Int) {q : Rat} (h : q ≠ 0) : Can [(t, q)] := ⟨by simp, fun x hx => by simp at hx; rw [hx]; exact h⟩
theorem pw_move (r : PL) (t : Int) (φ : Int → Rat) : pairW (moveL r t) φ = pairW r fun s => φ (s + t) := by
  induction r with
  | nil => rfl
  | cons x r ih =>
    show pairW ((x.1 + t, x.2) :: moveL r t) φ = _
    rw [pw_cons, pw_cons, ih]
theorem pw_one (t : Int) (φ : Int → Rat) : pairW [(t, (1 : Rat))] φ = φ t := by
  rw [pw_cons, pw_nil, Rat.one_mul, Rat.add_zero]
theorem norm_shift (r : PL) (t : Int) : norm (prodL r [(t, 1)]) = norm (moveL r t) := norm_eq fun φ => by
  rw [pw_prod, pw_move]
  refine pw_congr fun s => ?_
  rw [pw_one]
theorem norm_rev (ps : PL) : norm ps.reverse = norm ps := norm_eq fun φ => pw_perm (List.reverse_perm ps) φ
theorem norm_norm (ps : PL) : norm (norm ps) = norm ps := norm_self (norm_can ps)
theorem tot_filter (r : PL) (t : Int) : totQ (r.filter fun x => decide (x.1 = t)) = sumAt r t := by
  induction r with
  | nil => rfl
  | cons x r ih =>
    have e : sumAt (x :: r) t = x.2 * delta t x.1 + sumAt r t := rfl
    rw [e, ← ih]
    by_cases c : x.1 = t
    · rw [List.filter_cons_of_pos (by simp [c])]
      have d : delta t x.1 = 1 := if_pos c
      rw [d]
      rfl
    · rw [List.filter_cons_of_neg (by simp [c])]
      have d : delta t x.1 = 0 := if_neg c
      rw [d, Rat.mul_zero, Rat.zero_add]
theorem at_tot {r : PL} (h : Can r) (t : Int) : getQ r t = totQ (r.filter fun x => decide (x.1 = t)) := by
  rw [tot_filter, get_at h.nodup]
theorem asc_ext : ∀ {l m : List Int}, l.Pairwise (fun a b => a < b) → m.Pairwise (fun a b => a < b) → (∀ t, t ∈ l ↔ t ∈ m) → l = m
  | [], [], _, _, _ => rfl
  | [], b :: m, _, _, h => by have := (h b).mpr List.mem_cons_self; cases this
  | a :: l, [], _, _, h => by have := (h a).mp List.mem_cons_self; cases this
  | a :: l, b :: m, hl, hm, h => by
    rw [List.pairwise_cons] at hl hm
    have e : a = b := by
      have h1 := (h a).mp List.mem_cons_self
      have h2 := (h b).mpr List.mem_cons_self
      rcases List.mem_cons.mp h1 with c | c
      · exact c
      · rcases List.mem_cons.mp h2 with d | d
        · exact d.symm
        · have := hm.1 a c
          have := hl.1 b d
          omega
    subst e
    rw [asc_ext hl.2 hm.2 fun t => ⟨fun ht => by
      rcases List.mem_cons.mp ((h t).mp (List.mem_cons_of_mem _ ht)) with c | c
      · have := hl.1 t ht; omega
      · exact c, fun ht => by
      rcases List.mem_cons.mp ((h t).mpr (List.mem_cons_of_mem _ ht)) with c | c
      · have := hm.1 t ht; omega
      · exact c⟩]
theorem keys_rng {r : PL} (h : Can r) (hb : ∀ x ∈ r, 0 ≤ x.1 ∧ x.1 < 9) : (((List.range 9).map fun (k : Nat) => (k : Int)).filter fun t => decide (t ∈ r.map (·.1))) = r.map (·.1) := by
  refine asc_ext (List.Pairwise.filter _ (by decide)) (by rw [List.pairwise_map]; exact h.asc) fun t => ?_
  rw [List.mem_filter, decide_eq_true_iff]
  refine ⟨fun z => z.2, fun z => ⟨?_, z⟩⟩
  obtain ⟨x, hx, rfl⟩ := List.mem_map.mp z
  have := hb x hx
  exact List.mem_map.mpr ⟨x.1.toNat, List.mem_range.mpr (by omega), by omega⟩
end PD
/-! Lists of pairs compared. -/
namespace PD
open PySem (sizeLine PyData)
def pairD (x : Int × Rat) : PyData := .tuple [.int x.1, frD x.2]
theorem toPDs_map {α : Type} {f : α → P} {g : α → PyData} (h : ∀ a, toPD (f a) = some (g a)) : ∀ l : List α, toPDs (l.map f) = some (l.map g)
  | [] => rfl
  | a :: l => by
    show (match toPD (f a), toPDs (l.map f) with
      | some d, some ds => some (d :: ds)
      | _, _ => none) = _
    rw [h, toPDs_map h l]
    rfl
theorem lay_map {α : Type} {g : α → PyData} (h : ∀ a, PyData.canLay0 (g a) = true) : ∀ l : List α, PyData.canLayAll0 (l.map g) = true
  | [] => rfl
  | a :: l => by
    show (PyData.canLay0 (g a) && PyData.canLayAll0 (l.map g)) = true
    rw [h, lay_map h l]
    rfl
theorem depth_map {α : Type} {g : α → PyData} {n : Nat} (h : ∀ a, PyData.depth (g a) ≤ n) : ∀ l : List α, PyData.depthAll (l.map g) ≤ n
  | [] => Nat.zero_le _
  | a :: l => by
    show max (PyData.depth (g a)) (PyData.depthAll (l.map g)) ≤ n
    have := h a
    have := depth_map h l
    omega
theorem eqvAll_map {α : Type} {g : α → PyData} (h : ∀ a, PyData.eqv (g a) (g a) = true) : ∀ l : List α, PyData.eqvAll (l.map g) (l.map g) = true
  | [] => rfl
  | a :: l => by
    show (PyData.eqv (g a) (g a) && PyData.eqvAll (l.map g) (l.map g)) = true
    rw [h, eqvAll_map h l]
    rfl
theorem data_lst {α : Type} {f : α → P} {g : α → PyData} (h : ∀ a, toPD (f a) = some (g a)) (h1 : ∀ a, PyData.canLay0 (g a) = true) (h2 : ∀ a, PyData.depth (g a) ≤ 5) (l : List α) : dataOf (.lst (l.map f)) = some (.list (l.map g)) := by
  unfold dataOf
  have e : toPD (.lst (l.map f)) = some (.list (l.map g)) := by
    show (toPDs (l.map f)).map PyData.list = _
    rw [toPDs_map h l]
    rfl
  rw [e]
  dsimp only
  rw [if_pos]
  show (PyData.canLayAll0 (l.map g) && decide (PyData.depthAll (l.map g) + 1 ≤ 64)) = true
  have := depth_map h2 l
  rw [lay_map h1 l, decide_eq_true (by omega)]
  rfl
theorem eq_lst {α : Type} {f : α → P} {g : α → PyData} (h : ∀ a, toPD (f a) = some (g a)) (h1 : ∀ a, PyData.canLay0 (g a) = true) (h2 : ∀ a, PyData.depth (g a) ≤ 5) (h3 : ∀ a, PyData.eqv (g a) (g a) = true) (l : List α) : prim2 .eq (.lst (l.map f)) (.lst (l.map f)) = some (.bl true) ∧ prim2 .ne (.lst (l.map f)) (.lst (l.map f)) = some (.bl false) := by
  have e := data_lst h h1 h2 l
  have r : PyData.eqv (.list (l.map g)) (.list (l.map g)) = true := eqvAll_map h3 l
  constructor
  · show ((match dataOf (.lst (l.map f)), dataOf (.lst (l.map f)) with
      | some d, some e => some (PyData.eqv d e)
      | _, _ => none).map P.bl) = _
    rw [e]
    dsimp only
    rw [r]
    rfl
  · show ((match dataOf (.lst (l.map f)), dataOf (.lst (l.map f)) with
      | some d, some e => some (PyData.eqv d e)
      | _, _ => none).map fun r => P.bl (!r)) = _
    rw [e]
    dsimp only
    rw [r]
    rfl
theorem eqv_pair (x : Int × Rat) : PyData.eqv (pairD x) (pairD x) = true := by
  show ((x.1 == x.1) && (PyData.eqv (frD x.2) (frD x.2) && true)) = true
  rw [eqv_fr]
  simp
theorem ne_pl (l : PL) : prim2 .ne (.lst (l.map pairP)) (.lst (l.map pairP)) = some (.bl false) := (eq_lst (g := pairD) (fun _ => rfl) (fun _ => rfl) (fun x => show max 0 (max (max 0 (max 0 0) + 1) 0) + 1 ≤ 5 by decide) eqv_pair l).2
theorem eq_il (l : List Int) : prim2 .eq (.lst (l.map .int)) (.lst (l.map .int)) = some (.bl true) := (eq_lst (g := PyData.int) (fun _ => rfl) (fun _ => rfl) (fun x => Nat.zero_le _) (fun a => by show (a == a) = true; simp) l).1
end PD
/-! The law's own check of one row. -/
namespace PD
open PySem (sizeLine PyData)
theorem ev_m1 {Φ : Nat → List Arg → LR} {i : Nat} {m : PySem.Str} {e : IE} {ρ : List (Option D)} {S : Sto} {r : PL} {z : P} (he : ev Φ e ρ S = .ok (.p (rowP r)) S) (hm : ∀ S, noAttr S m (.p (rowP r)) = true) (h : ∀ S, callA (Φ i) [D.p (rowP r)] S = .ok (.p z) S) : ev Φ (.meth true 0 m i (.cons e .nil)) ρ S = .ok (.p z) S := by
  simp only [ev, evL, he, Res.bind, ins_row, hm, Bool.and_self, if_true, frzL, frz, List.map_cons, List.map_nil]
  exact h S
theorem ev_m2 {Φ : Nat → List Arg → LR} {i : Nat} {m : PySem.Str} {e a : IE} {ρ : List (Option D)} {S : Sto} {r : PL} {x z : P} (he : ev Φ e ρ S = .ok (.p (rowP r)) S) (ha : ev Φ a ρ S = .ok (.p x) S) (hm : ∀ S, noAttr S m (.p (rowP r)) = true) (h : ∀ S, callA (Φ i) [D.p (rowP r), D.p x] S = .ok (.p z) S) : ev Φ (.meth true 0 m i (.cons e (.cons a .nil))) ρ S = .ok (.p z) S := by
  simp only [ev, evL, he, ha, Res.bind, ins_row, hm, Bool.and_self, if_true, frzL, frz, List.map_cons, List.map_nil]
  exact h S
theorem ev_len {Φ : Nat → List Arg → LR} {i : Nat} {e : IE} {ρ : List (Option D)} {S : Sto} {r : PL} (hi : Φ i = F_rlen) (he : ev Φ e ρ S = .ok (.p (rowP r)) S) (hl : r.length ≤ 1000) : ev Φ (.own1 0 i e) ρ S = .ok (.p (.int r.length)) S := by
  have c := callA_1 (S := S) (F_rlen_eq r)
  simp only [ev, he, Res.bind, ins_row, if_true, hi, c]
  rw [if_pos (by omega)]
theorem ev_own2 {Φ : Nat → List Arg → LR} {i : Nat} {e a : IE} {ρ : List (Option D)} {S : Sto} {r s : PL} {z : P} (he : ev Φ e ρ S = .ok (.p (rowP r)) S) (ha : ev Φ a ρ S = .ok (.p (rowP s)) S) (h : ∀ S, callA (Φ i) [D.p (rowP r), D.p (rowP s)] S = .ok (.p z) S) : ev Φ (.own2 0 i e a) ρ S = .ok (.p z) S := by
  simp only [ev, he, ha, Res.bind, ins_row, Bool.and_self, if_true]
  exact h S
theorem ev_neq {Φ : Nat → List Arg → LR} {i : Nat} {e a : IE} {ρ : List (Option D)} {S : Sto} {r : PL} (hi : Φ i = F_req) (hc : Can r) (he : ev Φ e ρ S = .ok (.p (rowP r)) S) (ha : ev Φ a ρ S = .ok (.p (rowP r)) S) : ev Φ (.ne 0 i e a) ρ S = .ok (.p (.bl false)) S := by
  have c := req_2 hc hc S
  rw [decide_eq_true rfl] at c
  simp only [ev, he, ha, Res.bind, ins_row, Bool.and_self, if_true, hi, c]
  rfl
theorem ev_eqr {Φ : Nat → List Arg → LR} {i : Nat} {e a : IE} {ρ : List (Option D)} {S : Sto} {r : PL} (hi : Φ i = F_req) (hc : Can r) (he : ev Φ e ρ S = .ok (.p (rowP r)) S) (ha : ev Φ a ρ S = .ok (.p (rowP r)) S) : ev Φ (.own2 0 i e a) ρ S = .ok (.p (.bl true)) S := ev_own2 he ha fun S => by
  rw [hi, req_2 hc hc S, decide_eq_true rfl]
theorem ev_inr {Φ : Nat → List Arg → LR} {i : Nat} {e a : IE} {ρ : List (Option D)} {S : Sto} {r : PL} {t : Int} (hi : Φ i = F_rin) (h0 : 0 ≤ t) (he : ev Φ e ρ S = .ok (.p (.int t)) S) (ha : ev Φ a ρ S = .ok (.p (rowP r)) S) : ev Φ (.isin 0 i e a) ρ S = .ok (.p (.bl (decide (t ∈ r.map (·.1))))) S := by
  have c := callA_2 (S := S) (F_rt_eq (g := fun r t => .ok (.p (.bl (decide (t ∈ r.map (·.1))))) []) (dom := fun _ t => 0 ≤ t) (r := r) h0)
  simp only [ev, he, ha, Res.bind, ins_row, if_true, hi]
  rw [show callA F_rin [D.p (rowP r), D.p (.int t)] S = _ from c]
theorem ev_c1 {Φ : Nat → List Arg → LR} {i : Nat} {a : IE} {ρ : List (Option D)} {S : Sto} {x z : P} (ha : ev Φ a ρ S = .ok (.p x) S) (h : ∀ S, callA (Φ i) [D.p x] S = .ok (.p z) S) : ev Φ (.call true i [] (.cons a .nil)) ρ S = .ok (.p z) S := by
  simp only [ev, evL, ha, Res.bind, if_true, frzL, frz, List.map_cons, List.map_nil, List.append_nil]
  exact h S
theorem ev_and1 {Φ : Nat → List Arg → LR} {a b : IE} {ρ : List (Option D)} {S : Sto} (ha : ev Φ a ρ S = .ok (.p (.bl true)) S) : ev Φ (.and a b) ρ S = ev Φ b ρ S := by
  simp only [ev, ha, Res.bind]
theorem prod_one (r : PL) (t : Int) : prodL r [(t, 1)] = moveL r t := by
  unfold prodL moveL
  induction r with
  | nil => rfl
  | cons x r ih =>
    rw [List.flatMap_cons, ih]
    simp [Rat.mul_one]
/-- pairs that one check can bear -/
structure OkOne (ps : PL) (t : Int) : Prop where
  len : ps.length ≤ 300
  tk : ∀ x ∈ ps, 0 ≤ x.1 ∧ x.1 < 9
  gr : ∀ x ∈ ps, Gr DD (10 ^ 50) x.2
  t0 : 0 ≤ t
  t1 : t < 50
theorem OkOne.tame {ps : PL} {t : Int} (h : OkOne ps t) : Tame ps := ⟨h.len, fun x hx => by have := h.tk x hx; omega, fun x hx => (h.gr x hx).mono (by decide)⟩
theorem norm_tk {ps : PL} {a b : Int} (h : ∀ x ∈ ps, a ≤ x.1 ∧ x.1 < b) : ∀ x ∈ norm ps, a ≤ x.1 ∧ x.1 < b := fun x hx => by
  obtain ⟨y, hy, e⟩ := List.mem_map.mp (norm_val hx).1
  rw [← e]
  exact h y hy
theorem norm_gr {D V : Nat} (hd : D ≠ 0) {ps : PL} (h : ∀ x ∈ ps, Gr D V x.2) : ∀ x ∈ norm ps, Gr D (ps.length * V) x.2 := fun x hx => by
  rw [(norm_val hx).2]
  exact sumAt_gr hd _ h
theorem OkOne.norm {ps : PL} {t : Int} (h : OkOne ps t) : Tame (norm ps) := ⟨by have := norm_few (ps := ps) fun x hx => h.tame.tk x hx; omega, norm_tk h.tame.tk, fun x hx => (norm_gr (by decide) h.gr x hx).mono (Nat.le_trans (Nat.mul_le_mul_right _ h.len) (by decide))⟩
theorem OkOne.move {ps : PL} {t : Int} (h : OkOne ps t) : Tame (moveL (PD.norm ps) t) := ⟨by unfold moveL; rw [List.length_map]; exact h.norm.len, fun x hx => by
    unfold moveL at hx
    obtain ⟨y, hy, rfl⟩ := List.mem_map.mp hx
    have := norm_tk h.tk y hy
    have := h.t0
    have := h.t1
    dsimp only
    omega, fun x hx => by
    unfold moveL at hx
    obtain ⟨y, hy, rfl⟩ := List.mem_map.mp hx
    exact h.norm.gr y hy⟩
theorem OkOne.one {ps : PL} {t : Int} (h : OkOne ps t) : Tame [(t, 1)] := ⟨by simp, fun x hx => by
    have := h.t0
    have := h.t1
    simp at hx
    subst hx
    dsimp only
    omega, fun x hx => by
    simp at hx
    subst hx
    exact ⟨216000, show (1 : Rat) = _ by decide +kernel, by decide⟩⟩
theorem ev_rev {Φ : Nat → List Arg → LR} {v : Nat} {ρ : List (Option D)} {S : Sto} {l : List P} (h : ρ[v]? = some (some (.p (.lst l)))) : ev Φ (.o1 .tuple (.o1 .rev (.var v))) ρ S = .ok (.p (.tup l.reverse)) S :=
  ev_o1 (ev_o1 (ev_var h) (show prim1 .rev (.lst l) = some (.lst l.reverse) from rfl)) rfl
theorem step_ok {Φ : Nat → List Arg → LR} {own : List Nat} {tg : Tg} {cond : IT} {elt : IE} {ρ ρ' : List (Option D)} {S : Sto} {x y : P} {b : Bool} (e : setTg tg x (wipeR ρ own) = some ρ') (hc : evT Φ cond ρ' S = .ok b S) (he : b = true → ev Φ elt ρ' S = .ok (.p y) S) : stepL own tg (evT Φ cond) (ev Φ elt) ρ x S = .ok (if b = true then some y else none) S := by
  unfold stepL
  rw [e]
  dsimp only
  rw [hc]
  cases b with
  | true =>
    simp only [Res.bind, if_true]
    rw [he rfl]
    rfl
  | false => rfl
theorem ev_tt {Φ : Nat → List Arg → LR} {ρ : List (Option D)} {S : Sto} : evT Φ .tt ρ S = .ok true S := rfl
theorem one_fr : (.tup [.int 1, .int 1] : P) = fr 1 := rfl
theorem moved_2 {r : PL} {t : Int} (h : 0 ≤ t ∧ Tame (moveL r t)) (S : Sto) : callA F_moved [D.p (rowP r), D.p (.int t)] S = .ok (.p (rowP (norm (moveL r t)))) S := callA_2 (F_rt_eq (dom := fun r t => 0 ≤ t ∧ Tame (moveL r t)) h)
theorem at_2 {r : PL} {t : Int} (h : 0 ≤ t) (S : Sto) : callA F_at [D.p (rowP r), D.p (.int t)] S = .ok (.p (fr (getQ r t))) S := callA_2 (F_rt_eq (dom := fun _ t => 0 ≤ t) h)
theorem upto_2 {r : PL} {t : Int} (h : (0 ≤ t ∧ Tame r) ∧ Tame (norm (cutL r t))) (S : Sto) : callA F_upto [D.p (rowP r), D.p (.int t)] S = .ok (.p (fr (totQ (norm (cutL r t))))) S := callA_2 (F_rt_eq (dom := fun r t => (0 ≤ t ∧ Tame r) ∧ Tame (norm (cutL r t))) h)
theorem na_moved (S : Sto) (r : PL) : noAttr S "moved" (.p (rowP r)) = true := by
  show (!hasK ["shares"] "moved") = true
  decide
theorem na_at (S : Sto) (r : PL) : noAttr S "at" (.p (rowP r)) = true := by
  show (!hasK ["shares"] "at") = true
  decide
theorem na_upto (S : Sto) (r : PL) : noAttr S "up_to" (.p (rowP r)) = true := by
  show (!hasK ["shares"] "up_to") = true
  decide
theorem ev_one {Φ : Nat → List Arg → LR} {a : IE} {ρ : List (Option D)} {S : Sto} {x : P} (ha : ev Φ a ρ S = .ok (.p x) S) : ev Φ (.lst false (.cons a .nil)) ρ S = .ok (.p (.lst [x])) S := by
  show (((ev Φ a ρ S).bind _).bind _) = _
  rw [ha]
  simp only [Res.bind, evL, frzL, frz]
  rw [if_pos (by have := two_le; simp; omega)]
  rfl
def B_lone (mk pl prs len tot sum mv mul cut up at_ inr eq : Nat) : IB := (.cons (.set (.tp [4, 5]) (.tup (.cons (.mk true 0 mk [] (.cons (.var 0) .nil)) (.cons (.call true pl [] (.cons (.var 0) .nil)) .nil))))
      (.cons (.iff (.or (.tr (.o2 .ne (.meth true 0 "pairs" prs (.cons (.var 4) .nil)) (.var 5))) (.or (.tr (.o2 .ne (.own1 0 len (.var 4)) (.o1 .len (.var 5)))) (.tr (.o2 .ne (.meth true 0 "total" tot (.cons (.var 4) .nil)) (.call true sum [] (.cons (.var 5) .nil))))))
      (.cons (.ret true (.cst (.bl false)))
      .nil)
      .nil)
      (.cons (.iff (.tr (.o2 .ne (.meth true 0 "pairs" prs (.cons (.meth true 0 "moved" mv (.cons (.var 4) (.cons (.var 1) .nil))) .nil)) (.lc false [7, 8] (.tup (.cons (.o2 .add (.var 7) (.var 1)) (.cons (.var 8) .nil))) (.tp [7, 8]) (.seq (.var 5)) .tt)))
      (.cons (.ret true (.cst (.bl false)))
      .nil)
      .nil)
      (.cons (.iff (.tr (.ne 0 eq (.meth true 0 "moved" mv (.cons (.var 4) (.cons (.var 1) .nil))) (.own2 0 mul (.var 4) (.mk true 0 mk [] (.cons (.lst false (.cons (.tup (.cons (.var 1) (.cons (.tup (.cons (.cst (.int 1)) (.cons (.cst (.int 1)) .nil))) .nil))) .nil)) .nil)))))
      (.cons (.ret true (.cst (.bl false)))
      .nil)
      .nil)
      (.cons (.set (.nm 2) (.lc false [6] (.var 6) (.nm 6) (.seq (.var 5)) (.tr (.o2 .le (.o2 .ix (.var 6) (.cst (.int 0))) (.var 1)))))
      (.cons (.iff (.or (.tr (.o2 .ne (.meth true 0 "pairs" prs (.cons (.meth true 0 "cut" cut (.cons (.var 4) (.cons (.var 1) .nil))) .nil)) (.var 2))) (.tr (.o2 .ne (.meth true 0 "up_to" up (.cons (.var 4) (.cons (.var 1) .nil))) (.call true sum [] (.cons (.var 2) .nil)))))
      (.cons (.ret true (.cst (.bl false)))
      .nil)
      .nil)
      (.cons (.iff (.tr (.o2 .ne (.meth true 0 "at" at_ (.cons (.var 4) (.cons (.var 1) .nil))) (.call true sum [] (.cons (.lc false [6] (.var 6) (.nm 6) (.seq (.var 5)) (.tr (.o2 .eq (.o2 .ix (.var 6) (.cst (.int 0))) (.var 1)))) .nil))))
      (.cons (.ret true (.cst (.bl false)))
      .nil)
      .nil)
      (.cons (.set (.nm 3) (.lc false [7] (.var 7) (.nm 7) (.rng1 (.cst (.int 9))) (.tr (.isin 0 inr (.var 7) (.var 4)))))
      (.cons (.ret true (.and (.o2 .eq (.var 3) (.lc false [6] (.o2 .ix (.var 6) (.cst (.int 0))) (.nm 6) (.seq (.var 5)) .tt)) (.and (.own2 0 eq (.var 4) (.mk true 0 mk [] (.cons (.o1 .tuple (.o1 .rev (.var 0))) .nil))) (.own2 0 eq (.var 4) (.mk true 0 mk [] (.cons (.var 5) .nil))))))
      .nil)))))))))
noncomputable def F_lone : List Arg → LR := dec (α := PL × Int) (fun x => [.p (.lst (x.1.map pairP)), .p (.int x.2)]) (fun x => OkOne x.1 x.2) (fun _ => .ok (.p (.bl true)) [])
theorem F_lone_eq {ps : PL} {t : Int} (h : OkOne ps t) : F_lone [.p (.lst (ps.map pairP)), .p (.int t)] = .ok (.p (.bl true)) [] := dec_eq (a := (ps, t)) (fun a b h => by
  simp only [List.cons.injEq, Arg.p.injEq, P.int.injEq, and_true] at h
  exact Prod.ext (lstP_inj h.1) h.2) h
abbrev ρO (ps : PL) (t : Int) (r : PL) (a b : Option D) : List (Option D) := [some (.p (.lst (ps.map pairP))), some (.p (.int t)), a, b, some (.p (rowP r)), some (.p (.lst (r.map pairP))), none, none, none]
theorem says_lone (Φ : Nat → List Arg → LR) (fuel mk pl prs len tot sum mv mul cut up at_ inr eq : Nat) (h1 : Φ mk = F_init) (h2 : Φ pl = F_plain) (h3 : Φ prs = F_pairs) (h4 : Φ len = F_rlen) (h5 : Φ tot = F_tot) (h6 : Φ sum = F_lsum) (h7 : Φ mv = F_moved) (h8 : Φ mul = F_rmul) (h9 : Φ cut = F_cut) (h10 : Φ up = F_upto) (h11 : Φ at_ = F_at) (h12 : Φ inr = F_rin) (h13 : Φ eq = F_req) :
    ∀ as, Says (runB Φ fuel (B_lone mk pl prs len tot sum mv mul cut up at_ inr eq) 9 (numA 0 as) (boxesA as)) (boxesA as).length (F_lone as) := dec_says fun ⟨ps, t⟩ h => by
  have h : OkOne ps t := h
  refine ⟨[], runB_ret ?_, rfl, rfl⟩
  show exs Φ fuel (B_lone mk pl prs len tot sum mv mul cut up at_ inr eq) [some (.p (.lst (ps.map pairP))), some (.p (.int t)), none, none, none, none, none, none, none] [] = _
  have hC : Can (norm ps) := norm_can ps
  have hT := h.norm
  have hM := h.move
  have hO := h.one
  have hTk := norm_tk h.tk
  have hrv : norm ps.reverse = norm ps := norm_rev ps
  have hnn : norm (norm ps) = norm ps := norm_norm ps
  have htp : Tame ps := h.tame
  have ht0 := h.t0
  have pl1 := fun S => plain_1 htp S
  generalize hr : norm ps = r at *
  have hl : r.length ≤ 300 := hT.len
  have s1 : ex Φ fuel (.set (.tp [4, 5]) (.tup (.cons (.mk true 0 mk [] (.cons (.var 0) .nil)) (.cons (.call true pl [] (.cons (.var 0) .nil)) .nil)))) [some (.p (.lst (ps.map pairP))), some (.p (.int t)), none, none, none, none, none, none, none] [] = .next (ρO ps t r none none) [] := by
    have e1 := ev_mkrow (Φ := Φ) (j := mk) h1 true (e := .var 0) (ρ := [some (.p (.lst (ps.map pairP))), some (.p (.int t)), none, none, none, none, none, none, none]) (S := []) rfl htp
    rw [hr] at e1
    have e2 := ev_c1 (Φ := Φ) (i := pl) (a := .var 0) (ρ := [some (.p (.lst (ps.map pairP))), some (.p (.int t)), none, none, none, none, none, none, none]) (S := []) rfl fun S => by rw [h2]; exact pl1 S
    simp only [ex]
    rw [ev_two e1 e2]
    rfl
  have row : ∀ a b S, ev Φ (.var 4) (ρO ps t r a b) S = .ok (.p (rowP r)) S := fun _ _ _ => rfl
  have tick : ∀ a b S, ev Φ (.var 1) (ρO ps t r a b) S = .ok (.p (.int t)) S := fun _ _ _ => rfl
  have plain : ∀ a b S, ev Φ (.var 5) (ρO ps t r a b) S = .ok (.p (.lst (r.map pairP))) S := fun _ _ _ => rfl
  have prs1 : ∀ {e : IE} {s : PL} {ρ : List (Option D)}, ev Φ e ρ [] = .ok (.p (rowP s)) [] → ev Φ (.meth true 0 "pairs" prs (.cons e .nil)) ρ [] = .ok (.p (.lst (s.map pairP))) [] := fun he => ev_m1 he (fun S => na_pairs S _) fun S => by rw [h3]; exact pairs_1 _ S
  have s2 := ex_if0 (Φ := Φ) (fuel := fuel) (a := .cons (.ret true (.cst (.bl false))) .nil) (ρ := ρO ps t r none none) (S := []) (evT_or0 (evT_p (ev_o2 (o := .ne) (prs1 (row _ _ _)) (plain _ _ _) (ne_pl r)))
    (evT_or0 (evT_p (ev_o2 (o := .ne) (ev_len h4 (row none none []) (by omega)) (ev_o1 (o := .len) (plain none none []) (show prim1 .len (.lst (r.map pairP)) = some (.int r.length) by show some (P.int ((r.map pairP).length : Nat)) = _; rw [List.length_map])) (by rw [ne_int, beq_self_eq_true]; rfl)))
    (evT_p (ev_o2 (o := .ne) (ev_m1 (m := "total") (row none none []) (fun S => na_total S r) fun S => by rw [h5]; exact tot_1 hT S) (ev_c1 (plain none none []) fun S => by rw [h6]; exact lsum_1 hT S) (ne_same _)))))
  have mvE : ∀ a b, ev Φ (.meth true 0 "moved" mv (.cons (.var 4) (.cons (.var 1) .nil))) (ρO ps t r a b) [] = .ok (.p (rowP (moveL r t))) [] := fun a b => ev_m2 (row a b []) (tick a b []) (fun S => na_moved S r) fun S => by
    rw [h7, moved_2 ⟨ht0, hM⟩ S, norm_self (can_move hC t)]
  have lc1 : ev Φ (.lc false [7, 8] (.tup (.cons (.o2 .add (.var 7) (.var 1)) (.cons (.var 8) .nil))) (.tp [7, 8]) (.seq (.var 5)) .tt) (ρO ps t r none none) [] = .ok (.p (.lst ((moveL r t).map pairP))) [] := by
    have := ev_lcs (Φ := Φ) (src := .seq (.var 5)) (ρ := ρO ps t r none none) (S := []) (f := pairP) (r := r) rfl (own := [7, 8]) (elt := (.tup (.cons (.o2 .add (.var 7) (.var 1)) (.cons (.var 8) .nil)))) (tg := .tp [7, 8]) (cond := .tt) (g := fun x => some (pairP (x.1 + t, x.2))) (fun x _ => step_ok (ρ' := [some (.p (.lst (ps.map pairP))), some (.p (.int t)), none, none, some (.p (rowP r)), some (.p (.lst (r.map pairP))), none, some (.p (.int x.1)), some (.p (fr x.2))]) rfl ev_tt fun _ => ev_two (ev_addi (ev_var rfl) (ev_var rfl)) (ev_var rfl)) (by omega)
    rw [fm_map] at this
    rw [this, moveL, List.map_map]
    rfl
  have s3 := ex_if0 (Φ := Φ) (fuel := fuel) (a := .cons (.ret true (.cst (.bl false))) .nil) (ρ := ρO ps t r none none) (S := []) (evT_p (ev_o2 (o := .ne) (prs1 (mvE none none)) lc1 (ne_pl _)))
  have mkO : ev Φ (.mk true 0 mk [] (.cons (.lst false (.cons (.tup (.cons (.var 1) (.cons (.tup (.cons (.cst (.int 1)) (.cons (.cst (.int 1)) .nil))) .nil))) .nil)) .nil)) (ρO ps t r none none) [] = .ok (.p (rowP [(t, 1)])) [] := by
    have e := ev_mkrow (Φ := Φ) (j := mk) h1 true (ρ := ρO ps t r none none) (S := []) (S' := []) (e := .lst false (.cons (.tup (.cons (.var 1) (.cons (.tup (.cons (.cst (.int 1)) (.cons (.cst (.int 1)) .nil))) .nil))) .nil)) (ps := [(t, 1)]) (ev_one (ev_two (tick none none []) (ev_two (x := .int 1) (y := .int 1) rfl rfl))) hO
    rw [norm_self (can_one t (by decide))] at e
    exact e
  have mlE : ev Φ (.own2 0 mul (.var 4) (.mk true 0 mk [] (.cons (.lst false (.cons (.tup (.cons (.var 1) (.cons (.tup (.cons (.cst (.int 1)) (.cons (.cst (.int 1)) .nil))) .nil))) .nil)) .nil))) (ρO ps t r none none) [] = .ok (.p (rowP (moveL r t))) [] := ev_own2 (row none none []) mkO fun S => by
    rw [h8, rmul_2 ⟨⟨hT, hO⟩, by rw [prod_one]; exact hM⟩ S, prod_one, norm_self (can_move hC t)]
  have s4 := ex_if0 (Φ := Φ) (fuel := fuel) (a := .cons (.ret true (.cst (.bl false))) .nil) (ρ := ρO ps t r none none) (S := []) (evT_p (ev_neq h13 (can_move hC t) (mvE none none) mlE))
  have lcc : ∀ (o : Op2) (c : Int × Rat → Bool) (a b : Option D), (∀ x : Int × Rat, prim2 o (.int x.1) (.int t) = some (.bl (c x))) → ev Φ (.lc false [6] (.var 6) (.nm 6) (.seq (.var 5)) (.tr (.o2 o (.o2 .ix (.var 6) (.cst (.int 0))) (.var 1)))) (ρO ps t r a b) [] = .ok (.p (.lst ((r.filter c).map pairP))) [] := fun o c a b hc => by
    have := ev_lcs (Φ := Φ) (src := .seq (.var 5)) (ρ := ρO ps t r a b) (S := []) (f := pairP) (r := r) rfl (own := [6]) (elt := .var 6) (tg := .nm 6) (cond := .tr (.o2 o (.o2 .ix (.var 6) (.cst (.int 0))) (.var 1))) (g := fun x => if c x = true then some (pairP x) else none) (fun x _ => step_ok (ρ' := [some (.p (.lst (ps.map pairP))), some (.p (.int t)), a, b, some (.p (rowP r)), some (.p (.lst (r.map pairP))), some (.p (pairP x)), none, none]) rfl (evT_p (ev_o2 (ev_o2 (o := .ix) (a := .var 6) (x := pairP x) (y := .int 0) rfl rfl (ix0 _ _)) (ev_var rfl) (hc x))) fun _ => ev_var rfl) (by omega)
    rw [fm_filter] at this
    exact this
  have lc2 := lcc .le (fun x => decide (x.1 ≤ t)) none none fun x => rfl
  have s5 : ex Φ fuel (.set (.nm 2) (.lc false [6] (.var 6) (.nm 6) (.seq (.var 5)) (.tr (.o2 .le (.o2 .ix (.var 6) (.cst (.int 0))) (.var 1))))) (ρO ps t r none none) [] = .next (ρO ps t r (some (.p (.lst ((cutL r t).map pairP)))) none) [] := by
    simp only [ex]
    rw [lc2]
    rfl
  generalize hA : (some (D.p (.lst ((cutL r t).map pairP)))) = A at s5
  have cc : norm (cutL r t) = cutL r t := norm_self (can_filter hC _)
  have ctT : Tame (cutL r t) := hT.sub (List.length_filter_le _ _) fun x hx => (List.mem_filter.mp hx).1
  have ahead : ev Φ (.var 2) (ρO ps t r A none) [] = .ok (.p (.lst ((cutL r t).map pairP))) [] := by rw [← hA]; rfl
  have s6 := ex_if0 (Φ := Φ) (fuel := fuel) (a := .cons (.ret true (.cst (.bl false))) .nil) (ρ := ρO ps t r A none) (S := []) (evT_or0 (evT_p (ev_o2 (o := .ne) (prs1 (ev_m2 (row A none []) (tick A none []) (fun S => na_cut S r) fun S => by rw [h9, cut_2 ⟨ht0, hT⟩ S, cc])) ahead (ne_pl _)))
    (evT_p (ev_o2 (o := .ne) (ev_m2 (row A none []) (tick A none []) (fun S => na_upto S r) fun S => by rw [h10, upto_2 ⟨⟨ht0, hT⟩, by rw [cc]; exact ctT⟩ S, cc]) (ev_c1 ahead fun S => by rw [h6]; exact lsum_1 ctT S) (ne_same _))))
  have lc3 := lcc .eq (fun x => decide (x.1 = t)) A none fun x => by
    rw [eq_int]
    congr 2
  have s7 := ex_if0 (Φ := Φ) (fuel := fuel) (a := .cons (.ret true (.cst (.bl false))) .nil) (ρ := ρO ps t r A none) (S := []) (evT_p (ev_o2 (o := .ne) (ev_m2 (row A none []) (tick A none []) (fun S => na_at S r) fun S => by rw [h11]; exact at_2 ht0 S) (ev_c1 lc3 fun S => by rw [h6]; exact lsum_1 (hT.sub (List.length_filter_le _ _) fun x hx => (List.mem_filter.mp hx).1) S) (by rw [at_tot hC]; exact ne_same _)))
  have lc4 : ev Φ (.lc false [7] (.var 7) (.nm 7) (.rng1 (.cst (.int 9))) (.tr (.isin 0 inr (.var 7) (.var 4)))) (ρO ps t r A none) [] = .ok (.p (.lst ((r.map (·.1)).map .int))) [] := by
    have := ev_lcs (Φ := Φ) (src := .rng1 (.cst (.int 9))) (ρ := ρO ps t r A none) (S := []) (f := P.int) (r := (List.range 9).map fun (k : Nat) => (k : Int)) (by
      show (if small62 9 then Res.ok (rng 0 9) [] else .bad) = _
      rw [if_pos (by decide)]
      rfl) (own := [7]) (elt := .var 7) (tg := .nm 7) (cond := .tr (.isin 0 inr (.var 7) (.var 4))) (g := fun u => if decide (u ∈ r.map (·.1)) = true then some (P.int u) else none) (fun u hu => step_ok (ρ' := [some (.p (.lst (ps.map pairP))), some (.p (.int t)), A, none, some (.p (rowP r)), some (.p (.lst (r.map pairP))), none, some (.p (.int u)), none]) rfl (evT_p (ev_inr h12 (by
        obtain ⟨k, _, rfl⟩ := List.mem_map.mp hu
        omega) (ev_var rfl) (ev_var rfl))) fun _ => ev_var rfl) (by simp)
    rw [fm_filter P.int (fun u => decide (u ∈ r.map (·.1))), keys_rng hC hTk] at this
    exact this
  have s8 : ex Φ fuel (.set (.nm 3) (.lc false [7] (.var 7) (.nm 7) (.rng1 (.cst (.int 9))) (.tr (.isin 0 inr (.var 7) (.var 4))))) (ρO ps t r A none) [] = .next (ρO ps t r A (some (.p (.lst ((r.map (·.1)).map .int))))) [] := by
    simp only [ex]
    rw [lc4]
    rfl
  generalize hB : (some (D.p (.lst ((r.map (·.1)).map .int)))) = B at s8
  have ticks : ev Φ (.var 3) (ρO ps t r A B) [] = .ok (.p (.lst ((r.map (·.1)).map .int))) [] := by rw [← hB]; rfl
  have lc5 : ev Φ (.lc false [6] (.o2 .ix (.var 6) (.cst (.int 0))) (.nm 6) (.seq (.var 5)) .tt) (ρO ps t r A B) [] = .ok (.p (.lst ((r.map (·.1)).map .int))) [] := by
    have := ev_lcs (Φ := Φ) (src := .seq (.var 5)) (ρ := ρO ps t r A B) (S := []) (f := pairP) (r := r) rfl (own := [6]) (elt := .o2 .ix (.var 6) (.cst (.int 0))) (tg := .nm 6) (cond := .tt) (g := fun x => some (P.int x.1)) (fun x _ => step_ok (ρ' := [some (.p (.lst (ps.map pairP))), some (.p (.int t)), A, B, some (.p (rowP r)), some (.p (.lst (r.map pairP))), some (.p (pairP x)), none, none]) rfl ev_tt fun _ => ev_o2 (o := .ix) (a := .var 6) (x := pairP x) (y := .int 0) rfl rfl (ix0 _ _)) (by omega)
    rw [fm_map] at this
    rw [this, List.map_map]
    rfl
  have tr : Tame ps.reverse := htp.sub (by simp) fun x hx => List.mem_reverse.mp hx
  have eR : ev Φ (.own2 0 eq (.var 4) (.mk true 0 mk [] (.cons (.o1 .tuple (.o1 .rev (.var 0))) .nil))) (ρO ps t r A B) [] = .ok (.p (.bl true)) [] := ev_eqr h13 hC (row A B []) (by
    have e := ev_mkrow (Φ := Φ) (j := mk) h1 false (e := .o1 .tuple (.o1 .rev (.var 0))) (ρ := ρO ps t r A B) (S := []) (S' := []) (ps := ps.reverse) (by
      rw [ev_rev (l := ps.map pairP) rfl]
      show _ = Res.ok (D.p (P.tup (ps.reverse.map pairP))) []
      rw [List.map_reverse]) tr
    rw [hrv] at e
    exact e)
  have eN : ev Φ (.own2 0 eq (.var 4) (.mk true 0 mk [] (.cons (.var 5) .nil))) (ρO ps t r A B) [] = .ok (.p (.bl true)) [] := ev_eqr h13 hC (row A B []) (by
    have e := ev_mkrow (Φ := Φ) (j := mk) h1 true (e := .var 5) (ρ := ρO ps t r A B) (S := []) (S' := []) (ps := r) rfl hT
    rw [hnn] at e
    exact e)
  have fin : ev Φ (.and (.o2 .eq (.var 3) (.lc false [6] (.o2 .ix (.var 6) (.cst (.int 0))) (.nm 6) (.seq (.var 5)) .tt)) (.and (.own2 0 eq (.var 4) (.mk true 0 mk [] (.cons (.o1 .tuple (.o1 .rev (.var 0))) .nil))) (.own2 0 eq (.var 4) (.mk true 0 mk [] (.cons (.var 5) .nil))))) (ρO ps t r A B) [] = .ok (.p (.bl true)) [] := by
    rw [ev_and1 (ev_o2 (o := .eq) ticks lc5 (eq_il _)), ev_and1 eR, eN]
  rw [B_lone, exs_cons, s1]
  dsimp only [Out.andThen]
  rw [exs_cons, s2]
  dsimp only [Out.andThen]
  rw [exs_cons, s3]
  dsimp only [Out.andThen]
  rw [exs_cons, s4]
  dsimp only [Out.andThen]
  rw [exs_cons, s5]
  dsimp only [Out.andThen]
  rw [exs_cons, s6]
  dsimp only [Out.andThen]
  rw [exs_cons, s7]
  dsimp only [Out.andThen]
  rw [exs_cons, s8]
  dsimp only [Out.andThen]
  rw [exs_cons]
  simp only [ex, fin, Res.out, frz, if_true, Out.andThen]
theorem lone_2 {ps : PL} {t : Int} (h : OkOne ps t) (S : Sto) : callA F_lone [D.p (.lst (ps.map pairP)), D.p (.int t)] S = .ok (.p (.bl true)) S := callA_2 (F_lone_eq h)
end PD
/-! Sizes of rows, and the algebra. -/
namespace PD
open PySem (sizeLine PyData)
/-- n pairs, ticks to B, parts of D not above V -/
structure Sz (D V n B : Nat) (ps : PL) : Prop where
  len : ps.length ≤ n
  tk : ∀ x ∈ ps, 0 ≤ x.1 ∧ x.1 ≤ (B : Int)
  gr : ∀ x ∈ ps, Gr D V x.2
theorem few_le {l : List Int} {B : Nat} (nd : l.Nodup) (h : ∀ t ∈ l, 0 ≤ t ∧ t ≤ (B : Int)) : l.length ≤ B + 1 := by
  have h1 : (l.map Int.toNat).Nodup := by
    rw [List.Nodup, List.pairwise_map]
    refine List.Pairwise.imp_of_mem (fun {a b} ha hb hab e => hab ?_) nd
    have := h a ha
    have := h b hb
    omega
  have h2 : ∀ x ∈ l.map Int.toNat, x ∈ List.range (B + 1) := fun x hx => by
    obtain ⟨t, ht, rfl⟩ := List.mem_map.mp hx
    have := h t ht
    rw [List.mem_range]
    omega
  have h3 := List.Nodup.length_le_of_subset h1 h2
  simpa using h3
theorem Sz.norm {D V n B : Nat} {ps : PL} (hd : D ≠ 0) (h : Sz D V n B ps) : Sz D (n * V) (B + 1) B (norm ps) := by
  have tk : ∀ x ∈ PD.norm ps, 0 ≤ x.1 ∧ x.1 ≤ (B : Int) := fun x hx => by
    obtain ⟨y, hy, e⟩ := List.mem_map.mp (norm_val hx).1
    rw [← e]
    exact h.tk y hy
  refine ⟨?_, tk, fun x hx => (norm_gr hd h.gr x hx).mono (Nat.mul_le_mul_right _ h.len)⟩
  have := few_le (norm_can ps).nodup fun t ht => by
    obtain ⟨x, hx, rfl⟩ := List.mem_map.mp ht
    exact tk x hx
  simpa using this
theorem Sz.app {D V n m B : Nat} {r s : PL} (h : Sz D V n B r) (k : Sz D V m B s) : Sz D V (n + m) B (r ++ s) :=
  ⟨by have := h.len; have := k.len; rw [List.length_append]; omega, fun x hx => (List.mem_append.mp hx).elim (h.tk x) (k.tk x), fun x hx => (List.mem_append.mp hx).elim (h.gr x) (k.gr x)⟩
theorem prod_len (r s : PL) : (prodL r s).length = r.length * s.length := by
  unfold prodL
  induction r with
  | nil => simp
  | cons x r ih => rw [List.flatMap_cons, List.length_append, ih, List.length_map, List.length_cons, Nat.succ_mul, Nat.add_comm]
theorem Sz.prod {D E V W n m B C : Nat} {r s : PL} (h : Sz D V n B r) (k : Sz E W m C s) : Sz (D * E) (V * W) (n * m) (B + C) (prodL r s) := by
  refine ⟨by rw [prod_len]; exact Nat.mul_le_mul h.len k.len, fun x hx => ?_, fun x hx => ?_⟩
  · obtain ⟨a, ha, hb⟩ := List.mem_flatMap.mp hx
    obtain ⟨b, hb', rfl⟩ := List.mem_map.mp hb
    have := h.tk a ha
    have := k.tk b hb'
    dsimp only
    omega
  · obtain ⟨a, ha, hb⟩ := List.mem_flatMap.mp hx
    obtain ⟨b, hb', rfl⟩ := List.mem_map.mp hb
    exact (h.gr a ha).mul (k.gr b hb')
theorem Sz.mono {D V W n m B C : Nat} {r : PL} (h : Sz D V n B r) (hv : V ≤ W) (hn : n ≤ m) (hb : B ≤ C) : Sz D W m C r :=
  ⟨Nat.le_trans h.len hn, fun x hx => by have := h.tk x hx; omega, fun x hx => (h.gr x hx).mono hv⟩
theorem Sz.up {D V n B E : Nat} {r : PL} (he : E ≠ 0) (h : Sz D V n B r) : Sz (D * E) V n B r := ⟨h.len, h.tk, fun x hx => (h.gr x hx).up he⟩
theorem Sz.tame {D V n B : Nat} {r : PL} (h : Sz D V n B r) (E : Nat) (he : E ≠ 0) (hd : D * E = DD) (hv : V ≤ VV) (hn : n ≤ 300) (hb : B < 60) : Tame r := by
  have k := h.up he
  rw [hd] at k
  exact ⟨Nat.le_trans k.len hn, fun x hx => by have := k.tk x hx; omega, fun x hx => (k.gr x hx).mono hv⟩
theorem Sz.one {D V n B : Nat} {r : PL} {t : Int} (h : Sz D V n B r) (E : Nat) (he : E ≠ 0) (hd : D * E = DD) (hv : V ≤ 10 ^ 50) (hn : n ≤ 300) (hb : B < 9) (h0 : 0 ≤ t) (h1 : t < 50) : OkOne r t := by
  have k := h.up he
  rw [hd] at k
  exact ⟨Nat.le_trans k.len hn, fun x hx => by have := k.tk x hx; omega, fun x hx => (k.gr x hx).mono hv, h0, h1⟩
/-- a drawn list -/
abbrev Sd (ps : PL) : Prop := Sz 60 4 5 4 ps
theorem loop_sz : ∀ (n : Nat) (acc : PL) (c k : Int) (m : Nat), Sz 60 4 m 4 acc → Sz 60 4 (m + n) 4 (loopS n acc c k).1 ∧ (loopS n acc c k).2.2 = k + 3 * n
  | 0, acc, c, k, m, h => ⟨h, by show k = _; omega⟩
  | n + 1, acc, c, k, m, h => by
    obtain ⟨h1, h2⟩ := pairS_gr c k
    have h3 : Sz 60 4 (m + 1) 4 (acc ++ [(pairS c k).1]) := h.app ⟨by simp, fun x hx => by simp at hx; subst hx; omega, fun x hx => by simp at hx; subst hx; exact h2⟩
    obtain ⟨h4, h5⟩ := loop_sz n (acc ++ [(pairS c k).1]) (pairS c k).2 (k + 3) (m + 1) h3
    refine ⟨?_, ?_⟩
    · have e : m + (n + 1) = m + 1 + n := by omega
      rw [e]
      exact h4
    · show (loopS n _ _ _).2.2 = _
      rw [h5]
      omega
theorem pairs_sz (c k : Int) : Sd (pairsS c k).1 ∧ k < (pairsS c k).2.2 ∧ (pairsS c k).2.2 ≤ k + 16 := by
  have r := draw_range (c := c) (k := k) (m := 6) (by decide)
  obtain ⟨h1, h2⟩ := loop_sz (drawD c k 6).toNat [] (drawC c 6) (k + 1) 0 ⟨by simp, fun x hx => (by cases hx), fun x hx => (by cases hx)⟩
  refine ⟨h1.mono (Nat.le_refl _) (by omega) (Nat.le_refl _), ?_, ?_⟩
  · show k < (loopS _ _ _ _).2.2
    rw [h2]
    omega
  · show (loopS _ _ _ _).2.2 ≤ _
    rw [h2]
    omega
/-! the algebra of rows -/
theorem nn_add (a b : PL) : norm (norm a ++ norm b) = norm (a ++ b) := norm_eq fun φ => by rw [pw_app, pw_app, norm_pair, norm_pair]
theorem pw_prodn (a b : PL) (φ : Int → Rat) : pairW (prodL (norm a) b) φ = pairW (prodL a b) φ := by rw [pw_prod, pw_prod, norm_pair]
theorem pw_prodn' (a b : PL) (φ : Int → Rat) : pairW (prodL a (norm b)) φ = pairW (prodL a b) φ := by
  rw [pw_prod, pw_prod]
  refine pw_congr fun s => norm_pair b _
theorem nn_prod (a b : PL) : norm (prodL (norm a) (norm b)) = norm (prodL a b) := norm_eq fun φ => by rw [pw_prodn, pw_prodn']
theorem prod_comm (a b : PL) : norm (prodL a b) = norm (prodL b a) := norm_eq fun φ => by
  rw [pw_prod, pw_prod, pw_swap]
  refine pw_congr fun u => pw_congr fun s => by rw [Int.add_comm]
theorem add_comm' (a b : PL) : norm (a ++ b) = norm (b ++ a) := norm_eq fun φ => by rw [pw_app, pw_app, Rat.add_comm]
theorem prod_assoc (a b c : PL) : norm (prodL (norm (prodL a b)) c) = norm (prodL a (norm (prodL b c))) := norm_eq fun φ => by
  rw [pw_prodn, pw_prodn', pw_prod, pw_prod, pw_prod]
  refine pw_congr fun s => ?_
  rw [pw_prod]
  refine pw_congr fun u => pw_congr fun v => by rw [Int.add_assoc]
theorem prod_add (a b c : PL) : norm (prodL a (norm (b ++ c))) = norm (norm (prodL a b) ++ norm (prodL a c)) := norm_eq fun φ => by
  rw [pw_prodn', pw_app, norm_pair, norm_pair, pw_prod, pw_prod, pw_prod, ← pw_add]
  refine pw_congr fun s => ?_
  rw [pw_app]
/-! quotients -/
theorem gr_sm {q : Rat} (h : Gr 60 4 q) : q.num.natAbs < 2 ^ 10 ∧ q.den < 2 ^ 10 := by
  obtain ⟨n, rfl, b⟩ := h
  refine ⟨?_, ?_⟩
  · rw [Rat.num_divInt]
    have hp : ((60 : Nat) : Int).sign = 1 := rfl
    rw [hp, Int.one_mul]
    have : (n / ((Int.gcd (60 : Nat) n : Nat) : Int)).natAbs ≤ n.natAbs := Int.natAbs_ediv_le_natAbs _ _
    omega
  · rw [Rat.den_divInt, if_neg (by omega), Int.natAbs_natCast]
    exact Nat.lt_of_le_of_lt (Nat.div_le_self _ _) (by decide)
theorem sm_of {q : Rat} (h1 : q.num.natAbs < 2 ^ 100) (h2 : q.den < 2 ^ 100) : sm q := ⟨Nat.lt_of_lt_of_le h1 (Nat.pow_le_pow_right (by omega) (by omega)), Nat.lt_of_lt_of_le h2 (Nat.pow_le_pow_right (by omega) (by omega))⟩
theorem sm_divInt {a b : Int} (ha : a.natAbs < 2 ^ 100) (hb : b.natAbs < 2 ^ 100) : sm (Rat.divInt a b) := by
  refine sm_of ?_ ?_
  · rw [Rat.num_divInt]
    by_cases c : b = 0
    · subst c
      simp
    have hs : (b.sign * a).natAbs ≤ a.natAbs := by
      rw [Int.natAbs_mul]
      have : b.sign.natAbs = 1 := by rw [Int.natAbs_sign_of_ne_zero c]
      rw [this, Nat.one_mul]
      exact Nat.le_refl _
    have : (b.sign * a / ((Int.gcd b a : Nat) : Int)).natAbs ≤ (b.sign * a).natAbs := Int.natAbs_ediv_le_natAbs _ _
    omega
  · rw [Rat.den_divInt]
    split
    · decide
    · exact Nat.lt_of_le_of_lt (Nat.div_le_self _ _) hb
theorem quot_sm {p q : Rat} (hp : Gr 60 4 p) (hq : Gr 60 4 q) : sm2 p q ∧ sm (p / q) := by
  obtain ⟨a, b⟩ := gr_sm hp
  obtain ⟨c, d⟩ := gr_sm hq
  refine ⟨⟨sm_of (by omega) (by omega), sm_of (by omega) (by omega)⟩, ?_⟩
  rw [← div_rat]
  refine sm_divInt ?_ ?_
  · rw [Int.natAbs_mul, Int.natAbs_natCast]
    exact Nat.lt_of_le_of_lt (Nat.mul_le_mul (Nat.le_of_lt a) (Nat.le_of_lt d)) (by decide)
  · rw [Int.natAbs_mul, Int.natAbs_natCast]
    exact Nat.lt_of_le_of_lt (Nat.mul_le_mul (Nat.le_of_lt b) (Nat.le_of_lt c)) (by decide)
theorem gr_half : Gr 60 4 (Rat.divInt 1 2) := ⟨30, by decide +kernel, by decide⟩
end PD
/-! The law's own check of three rows. -/
namespace PD
open PySem (sizeLine PyData)
def B_lright (lpr draw lone prod mk prs add mul pl eq lfr : Nat) : IB := (.cons (.set (.tp [3, 4, 5]) (.lc false [9] (.call false lpr [] (.cons (.var 0) .nil)) (.nm 9) (.rng1 (.cst (.int 3))) .tt))
      (.cons (.set (.nm 1) (.call false draw [] (.cons (.var 0) (.cons (.cst (.int 6)) .nil))))
      (.cons (.iff (.or (.not (.tr (.call true lone [] (.cons (.var 3) (.cons (.var 1) .nil))))) (.not (.tr (.call true lone [] (.cons (.call true prod [] (.cons (.var 3) (.cons (.var 4) .nil))) (.cons (.var 1) .nil))))))
      (.cons (.ret true (.cst (.bl false)))
      .nil)
      .nil)
      (.cons (.par3 6 7 8 (.mk true 0 mk [] (.cons (.var 3) .nil)) (.mk true 0 mk [] (.cons (.var 4) .nil)) (.mk true 0 mk [] (.cons (.var 5) .nil)))
      (.cons (.iff (.or (.tr (.o2 .ne (.meth true 0 "pairs" prs (.cons (.own2 0 add (.var 6) (.var 7)) .nil)) (.call true pl [] (.cons (.o2 .add (.var 3) (.var 4)) .nil)))) (.tr (.o2 .ne (.meth true 0 "pairs" prs (.cons (.own2 0 mul (.var 6) (.var 7)) .nil)) (.call true prod [] (.cons (.var 3) (.cons (.var 4) .nil))))))
      (.cons (.ret true (.cst (.bl false)))
      .nil)
      .nil)
      (.cons (.iff (.or (.tr (.ne 0 eq (.own2 0 mul (.var 6) (.var 7)) (.own2 0 mul (.var 7) (.var 6)))) (.tr (.ne 0 eq (.own2 0 add (.var 6) (.var 7)) (.own2 0 add (.var 7) (.var 6)))))
      (.cons (.ret true (.cst (.bl false)))
      .nil)
      .nil)
      (.cons (.iff (.or (.tr (.ne 0 eq (.own2 0 mul (.own2 0 mul (.var 6) (.var 7)) (.var 8)) (.own2 0 mul (.var 6) (.own2 0 mul (.var 7) (.var 8))))) (.tr (.ne 0 eq (.own2 0 mul (.var 6) (.own2 0 add (.var 7) (.var 8))) (.own2 0 add (.own2 0 mul (.var 6) (.var 7)) (.own2 0 mul (.var 6) (.var 8))))))
      (.cons (.ret true (.cst (.bl false)))
      .nil)
      .nil)
      (.cons (.set (.nm 2) (.o2 .add (.lc false [10] (.o2 .ix (.var 10) (.cst (.int 1))) (.nm 10) (.seq (.o2 .add (.o2 .add (.var 3) (.var 4)) (.var 5))) .tt) (.lst false (.cons (.tup (.cons (.cst (.int 0)) (.cons (.cst (.int 1)) .nil))) (.cons (.tup (.cons (.cst (.int 1)) (.cons (.cst (.int 2)) .nil))) .nil)))))
      (.cons (.ret true (.call true lfr [] (.cons (.o2 .ix (.var 2) (.call false draw [] (.cons (.var 0) (.cons (.o1 .len (.var 2)) .nil)))) (.cons (.o2 .ix (.var 2) (.call false draw [] (.cons (.var 0) (.cons (.o1 .len (.var 2)) .nil)))) .nil))))
      .nil)))))))))
/-- the drawn numbers -/
def nums3 (a b d : PL) : List Rat := (a ++ b ++ d).map (·.2) ++ [0, Rat.divInt 1 2]
structure Drawn where
  one : PL
  two : PL
  three : PL
  c : Int
  k : Int
def drawn (c k : Int) : Drawn :=
  let a := pairsS c k
  let b := pairsS a.2.1 a.2.2
  let d := pairsS b.2.1 b.2.2
  ⟨a.1, b.1, d.1, d.2.1, d.2.2⟩
/-- the bag behind all draws -/
def bagEnd (c k : Int) : O :=
  let d := drawn c k
  let m : Int := (nums3 d.one d.two d.three).length
  bagP (drawC (drawC (drawC d.c 6) m) m) (d.k + 1 + 1 + 1)
noncomputable def F_lright : List Arg → LR := dec (α := Int × Int) (fun x => [.o (bagP x.1 x.2)]) (fun x => x.2.natAbs < 2 ^ 30) (fun x => .ok (.p (.bl true)) [bagEnd x.1 x.2])
theorem F_lright_eq {c k : Int} (h : k.natAbs < 2 ^ 30) : F_lright [.o (bagP c k)] = .ok (.p (.bl true)) [bagEnd c k] := dec_eq (a := (c, k)) (fun a b h => by
  simp only [List.cons.injEq, Arg.o.injEq, and_true] at h
  exact Prod.ext (bagP_inj h).1 (bagP_inj h).2) h
theorem ev_lpr {Φ : Nat → List Arg → LR} {i : Nat} (hi : Φ i = F_lpr) {ρ : List (Option D)} {c k : Int} (hv : ρ[0]? = some (some (.box 0))) (h : k.natAbs < 2 ^ 40) :
    ev Φ (.call false i [] (.cons (.var 0) .nil)) ρ [some (bagP c k)] = .ok (.p (.lst ((pairsS c k).1.map pairP))) [some (bagP (pairsS c k).2.1 (pairsS c k).2.2)] := by
  have ta : toArgs [some (bagP c k)] [.box 0] = some ([.o (bagP c k)], [0]) := by simp [toArgs]
  have cA : callA (Φ i) [.box 0] [some (bagP c k)] = .ok (.p (.lst ((pairsS c k).1.map pairP))) [some (bagP (pairsS c k).2.1 (pairsS c k).2.2)] := by
    unfold callA
    rw [ta]
    dsimp only
    rw [if_pos ⟨by simp, by simp [boxesA, purO, O.pure, bagP]⟩, hi, F_lpr_eq h]
    dsimp only
    rw [if_pos ⟨rfl, by simp [O.pure, bagP]⟩]
    rfl
  simp only [ev, evL, hv, Res.bind, Bool.false_eq_true, if_false, List.map_nil, List.append_nil]
  exact cA
theorem ev_draw0 {Φ : Nat → List Arg → LR} {i : Nat} (hi : Φ i = F_draw) {e : IE} {ρ : List (Option D)} {c k m : Int} (hv : ρ[0]? = some (some (.box 0))) (he : ev Φ e ρ [some (bagP c k)] = .ok (.p (.int m)) [some (bagP c k)]) (h : k.natAbs < 2 ^ 50 ∧ 0 < m ∧ m.natAbs < 2 ^ 60) :
    ev Φ (.call false i [] (.cons (.var 0) (.cons e .nil))) ρ [some (bagP c k)] = .ok (.p (.int (drawD c k m))) [some (bagP (drawC c m) (k + 1))] := ev_draw hi hv he rfl h
theorem turns_one {step : P → Sto → Res (Option P)} {x y : P} {r acc : List P} {S S' : Sto} (h : step x S = .ok (some y) S') (hl : acc.length < sizeLine) : turns step (x :: r) acc S = turns step r (acc ++ [y]) S' := by
  rw [turns, h]
  simp only [Res.bind]
  rw [if_pos hl]
theorem evT_n {Φ : Nat → List Arg → LR} {a : IE} {ρ : List (Option D)} {S : Sto} {b : Bool} (ha : ev Φ a ρ S = .ok (.p (.bl b)) S) : evT Φ (.not (.tr a)) ρ S = .ok (!b) S := by
  have := evT_p ha
  simp only [evT] at this ⊢
  rw [this]
  rfl
theorem ix_get {l : List Rat} {i : Int} (h0 : 0 ≤ i) (h1 : i < l.length) : ∃ q ∈ l, prim2 .ix (.lst (l.map fr)) (.int i) = some (fr q) := by
  have hn : i.toNat < l.length := by omega
  refine ⟨l[i.toNat], List.getElem_mem _, ?_⟩
  show L2.atI (l.map fr) i = _
  unfold L2.atI L2.ixN
  rw [List.length_map, if_pos h0, if_pos h1]
  simp [hn]
theorem ev_o2s {Φ : Nat → List Arg → LR} {o : Op2} {a b : IE} {ρ : List (Option D)} {S S1 S2 : Sto} {x y z : P} (ha : ev Φ a ρ S = .ok (.p x) S1) (hb : ev Φ b ρ S1 = .ok (.p y) S2) (h : prim2 o x y = some z) : ev Φ (.o2 o a b) ρ S = .ok (.p z) S2 := by
  simp only [ev, ha, hb, Res.bind, view_p, Option.bind_some, h, Option.map_some, optR]
theorem ev_l2 {Φ : Nat → List Arg → LR} {a b : IE} {ρ : List (Option D)} {S : Sto} {x y : P} (ha : ev Φ a ρ S = .ok (.p x) S) (hb : ev Φ b ρ S = .ok (.p y) S) : ev Φ (.lst false (.cons a (.cons b .nil))) ρ S = .ok (.p (.lst [x, y])) S := by
  simp only [ev, evL, ha, hb, Res.bind, frzL, frz]
  rw [if_pos (by have := two_le; simp; omega)]
  rfl
theorem ev_lcg {Φ : Nat → List Arg → LR} {own : List Nat} {elt : IE} {tg : Tg} {src : Src} {cond : IT} {ρ : List (Option D)} {S S1 S2 : Sto} {items l : List P} (h : evS Φ src ρ S = .ok items S1) (ht : turns (stepL own tg (evT Φ cond) (ev Φ elt) ρ) items [] S1 = .ok l S2) : ev Φ (.lc false own elt tg src cond) ρ S = .ok (.p (.lst l)) S2 := by
  simp only [ev, h, Res.bind, ht, calm, boxIf, cont, Option.map_some, optR, Bool.false_eq_true, if_false]
theorem add_pl (a b : PL) (h : a.length + b.length ≤ 1000) : prim2 .add (.lst (a.map pairP)) (.lst (b.map pairP)) = some (.lst ((a ++ b).map pairP)) := by
  show (if _ then some (P.lst _) else none) = _
  rw [if_pos (by simp [PySem.sizeLine_eq]; omega), List.map_append]
abbrev ρR (a b d : PL) (t n : Option D) (rows : List (Option D)) : List (Option D) := [some (.box 0), t, n, some (.p (.lst (a.map pairP))), some (.p (.lst (b.map pairP))), some (.p (.lst (d.map pairP)))] ++ rows ++ [none, none]
theorem says_lright (Φ : Nat → List Arg → LR) (fuel lpr draw lone prod mk prs add mul pl eq lfr : Nat) (h1 : Φ lpr = F_lpr) (h2 : Φ draw = F_draw) (h3 : Φ lone = F_lone) (h4 : Φ prod = F_prod) (h5 : Φ mk = F_init) (h6 : Φ prs = F_pairs) (h7 : Φ add = F_radd) (h8 : Φ mul = F_rmul) (h9 : Φ pl = F_plain) (h10 : Φ eq = F_req) (h11 : Φ lfr = F_lfr) :
    ∀ as, Says (runB Φ fuel (B_lright lpr draw lone prod mk prs add mul pl eq lfr) 11 (numA 0 as) (boxesA as)) (boxesA as).length (F_lright as) := dec_says fun ⟨c, k⟩ h => by
  have h : k.natAbs < 2 ^ 30 := h
  refine ⟨[some (bagEnd c k)], runB_ret ?_, rfl, rfl⟩
  show exs Φ fuel (B_lright lpr draw lone prod mk prs add mul pl eq lfr) [some (.box 0), none, none, none, none, none, none, none, none, none, none] [some (bagP c k)] = .ret _ [some (bagEnd c k)]
  obtain ⟨z1, u1, v1⟩ := pairs_sz c k
  obtain ⟨z2, u2, v2⟩ := pairs_sz (pairsS c k).2.1 (pairsS c k).2.2
  obtain ⟨z3, u3, v3⟩ := pairs_sz (pairsS (pairsS c k).2.1 (pairsS c k).2.2).2.1 (pairsS (pairsS c k).2.1 (pairsS c k).2.2).2.2
  have eB : bagEnd c k = bagEnd c k := rfl
  have s1 : ex Φ fuel (.set (.tp [3, 4, 5]) (.lc false [9] (.call false lpr [] (.cons (.var 0) .nil)) (.nm 9) (.rng1 (.cst (.int 3))) .tt)) [some (.box 0), none, none, none, none, none, none, none, none, none, none] [some (bagP c k)] = .next (ρR (drawn c k).one (drawn c k).two (drawn c k).three none none [none, none, none]) [some (bagP (drawn c k).c (drawn c k).k)] := by
    have st : ∀ (x : P) (c k : Int), k.natAbs < 2 ^ 40 → stepL [9] (.nm 9) (evT Φ .tt) (ev Φ (.call false lpr [] (.cons (.var 0) .nil))) [some (.box 0), none, none, none, none, none, none, none, none, none, none] x [some (bagP c k)] = .ok (some (.lst ((pairsS c k).1.map pairP))) [some (bagP (pairsS c k).2.1 (pairsS c k).2.2)] := fun x c k hk => by
      unfold stepL
      have e : setTg (.nm 9) x (wipeR [some (.box 0), none, none, none, none, none, none, none, none, none, none] [9]) = some [some (.box 0), none, none, none, none, none, none, none, none, some (.p x), none] := rfl
      rw [e]
      simp only [evT, Res.bind, if_true]
      rw [ev_lpr h1 rfl hk]
      rfl
    have hs : evS Φ (.rng1 (.cst (.int 3))) [some (.box 0), none, none, none, none, none, none, none, none, none, none] [some (bagP c k)] = .ok [.int (0 + (0 : Nat)), .int (0 + (1 : Nat)), .int (0 + (2 : Nat))] [some (bagP c k)] := by
      show (if small62 3 then Res.ok (rng 0 3) [some (bagP c k)] else .bad) = _
      rw [if_pos (by decide)]
      rfl
    have sl : 3 < sizeLine := by simp [PySem.sizeLine_eq]
    have tn : turns (stepL [9] (.nm 9) (evT Φ .tt) (ev Φ (.call false lpr [] (.cons (.var 0) .nil))) [some (.box 0), none, none, none, none, none, none, none, none, none, none]) [.int (0 + (0 : Nat)), .int (0 + (1 : Nat)), .int (0 + (2 : Nat))] [] [some (bagP c k)] = .ok [.lst ((drawn c k).one.map pairP), .lst ((drawn c k).two.map pairP), .lst ((drawn c k).three.map pairP)] [some (bagP (drawn c k).c (drawn c k).k)] := by
      rw [turns_one (st _ _ _ (by omega)) (by simp; omega), turns_one (st _ _ _ (by omega)) (by simp; omega), turns_one (st _ _ _ (by omega)) (by simp; omega)]
      rfl
    simp only [ex]
    rw [ev_lcg hs tn]
    rfl
  have hk0 : (drawn c k).k.natAbs < 2 ^ 31 := by
    show (pairsS (pairsS (pairsS c k).2.1 (pairsS c k).2.2).2.1 (pairsS (pairsS c k).2.1 (pairsS c k).2.2).2.2).2.2.natAbs < _
    omega
  have hz1 : Sd (drawn c k).one := z1
  have hz2 : Sd (drawn c k).two := z2
  have hz3 : Sd (drawn c k).three := z3
  have eE : bagEnd c k = bagP (drawC (drawC (drawC (drawn c k).c 6) (nums3 (drawn c k).one (drawn c k).two (drawn c k).three).length) (nums3 (drawn c k).one (drawn c k).two (drawn c k).three).length) ((drawn c k).k + 1 + 1 + 1) := rfl
  rw [B_lright, exs_cons, s1, eE]
  dsimp only [Out.andThen]
  generalize drawn c k = dd at *
  obtain ⟨a, b, d, c, k⟩ := dd
  dsimp only at hk0 hz1 hz2 hz3 ⊢
  clear s1 eE z1 u1 v1 z2 u2 v2 z3 u3 v3 eB
  -- the tick
  have tr := draw_range (c := c) (k := k) (m := 6) (by decide)
  have s2 : ex Φ fuel (.set (.nm 1) (.call false draw [] (.cons (.var 0) (.cons (.cst (.int 6)) .nil)))) (ρR a b d none none [none, none, none]) [some (bagP c k)] = .next (ρR a b d (some (.p (.int (drawD c k 6)))) none [none, none, none]) [some (bagP (drawC c 6) (k + 1))] := by
    simp only [ex]
    rw [ev_draw0 h2 rfl rfl ⟨by omega, by decide, by decide⟩]
    rfl
  rw [exs_cons, s2]
  dsimp only [Out.andThen]
  generalize drawD c k 6 = t at *
  generalize hc1 : drawC c 6 = c1
  have hk1 : (k + 1).natAbs < 2 ^ 32 := by omega
  generalize k + 1 = k1 at *
  generalize hS : ([some (bagP c1 k1)] : Sto) = S
  -- sizes
  have o1 : OkOne a t := hz1.one 3600 (by decide) (by decide) (by decide) (by decide) (by decide) tr.1 (by omega)
  have zp := hz1.prod hz2
  have zpn := zp.norm (by decide)
  have o2 : OkOne (norm (prodL a b)) t := zpn.one 60 (by decide) (by decide) (by decide) (by decide) (by decide) tr.1 (by omega)
  have tA : Tame a := hz1.tame 3600 (by decide) (by decide) (by decide) (by decide) (by decide)
  have tB : Tame b := hz2.tame 3600 (by decide) (by decide) (by decide) (by decide) (by decide)
  have tD : Tame d := hz3.tame 3600 (by decide) (by decide) (by decide) (by decide) (by decide)
  have tAB : Tame (prodL a b) := zp.tame 60 (by decide) (by decide) (by decide) (by decide) (by decide)
  have vA : ∀ t n r S, ev Φ (.var 3) (ρR a b d t n r) S = .ok (.p (.lst (a.map pairP))) S := fun _ _ _ _ => rfl
  have vB : ∀ t n r S, ev Φ (.var 4) (ρR a b d t n r) S = .ok (.p (.lst (b.map pairP))) S := fun _ _ _ _ => rfl
  have vD : ∀ t n r S, ev Φ (.var 5) (ρR a b d t n r) S = .ok (.p (.lst (d.map pairP))) S := fun _ _ _ _ => rfl
  have eP : ∀ t n r S, ev Φ (.call true prod [] (.cons (.var 3) (.cons (.var 4) .nil))) (ρR a b d t n r) S = .ok (.p (.lst ((norm (prodL a b)).map pairP))) S := fun t n r S => ev_c2 (vA t n r S) (vB t n r S) fun S => by rw [h4]; exact prod_2 ⟨⟨tA, tB⟩, tAB⟩ S
  have s3 := ex_if0 (Φ := Φ) (fuel := fuel) (a := .cons (.ret true (.cst (.bl false))) .nil) (ρ := ρR a b d (some (.p (.int t))) none [none, none, none]) (S := S)
    (evT_or0 (evT_n (b := true) (ev_c2 (i := lone) (vA _ _ _ S) (show ev Φ (.var 1) (ρR a b d (some (.p (.int t))) none [none, none, none]) S = .ok (.p (.int t)) S from rfl) fun S => by rw [h3]; exact lone_2 o1 S))
      (evT_n (b := true) (ev_c2 (i := lone) (eP _ _ _ S) (show ev Φ (.var 1) (ρR a b d (some (.p (.int t))) none [none, none, none]) S = .ok (.p (.int t)) S from rfl) fun S => by rw [h3]; exact lone_2 o2 S)))
  rw [exs_cons, s3]
  dsimp only [Out.andThen]
  generalize hT : some (D.p (.int t)) = T at *
  have s4 : ex Φ fuel (.par3 6 7 8 (.mk true 0 mk [] (.cons (.var 3) .nil)) (.mk true 0 mk [] (.cons (.var 4) .nil)) (.mk true 0 mk [] (.cons (.var 5) .nil))) (ρR a b d T none [none, none, none]) S = .next (ρR a b d T none [some (.p (rowP (norm a))), some (.p (rowP (norm b))), some (.p (rowP (norm d)))]) S := by
    simp only [ex]
    rw [ev_mkrow h5 true (vA T none [none, none, none] S) tA, ]
    simp only [Res.out]
    rw [ev_mkrow h5 true (vB T none [none, none, none] S) tB]
    simp only [Res.out]
    rw [ev_mkrow h5 true (vD T none [none, none, none] S) tD]
    rfl
  rw [exs_cons, s4]
  dsimp only [Out.andThen]
  -- the rows
  have zA := hz1.norm (by decide)
  have zB := hz2.norm (by decide)
  have zD := hz3.norm (by decide)
  have tnA : Tame (norm a) := zA.tame 3600 (by decide) (by decide) (by decide) (by decide) (by decide)
  have tnB : Tame (norm b) := zB.tame 3600 (by decide) (by decide) (by decide) (by decide) (by decide)
  have tnD : Tame (norm d) := zD.tame 3600 (by decide) (by decide) (by decide) (by decide) (by decide)
  generalize hR : [some (D.p (rowP (norm a))), some (D.p (rowP (norm b))), some (D.p (rowP (norm d)))] = R
  have rA : ∀ n, ev Φ (.var 6) (ρR a b d T n R) S = .ok (.p (rowP (norm a))) S := fun n => by rw [← hR]; rfl
  have rB : ∀ n, ev Φ (.var 7) (ρR a b d T n R) S = .ok (.p (rowP (norm b))) S := fun n => by rw [← hR]; rfl
  have rD : ∀ n, ev Φ (.var 8) (ρR a b d T n R) S = .ok (.p (rowP (norm d))) S := fun n => by rw [← hR]; rfl
  have addE : ∀ {x y : IE} {r s : PL}, ev Φ x (ρR a b d T none R) S = .ok (.p (rowP r)) S → ev Φ y (ρR a b d T none R) S = .ok (.p (rowP s)) S → Tame (r ++ s) → ev Φ (.own2 0 add x y) (ρR a b d T none R) S = .ok (.p (rowP (norm (r ++ s)))) S := fun hx hy ht => ev_own2 hx hy fun S => by rw [h7]; exact radd_2 ht S
  have mulE : ∀ {x y : IE} {r s : PL}, ev Φ x (ρR a b d T none R) S = .ok (.p (rowP r)) S → ev Φ y (ρR a b d T none R) S = .ok (.p (rowP s)) S → Tame r → Tame s → Tame (prodL r s) → ev Φ (.own2 0 mul x y) (ρR a b d T none R) S = .ok (.p (rowP (norm (prodL r s)))) S := fun hx hy h1 h2 ht => ev_own2 hx hy fun S => by rw [h8]; exact rmul_2 ⟨⟨h1, h2⟩, ht⟩ S
  have t60 : ∀ {V n B : Nat} {r : PL}, Sz 60 V n B r → V ≤ VV → n ≤ 300 → B < 60 → Tame r := fun h => h.tame 3600 (by decide) (by decide)
  have t36 : ∀ {V n B : Nat} {r : PL}, Sz (60 * 60) V n B r → V ≤ VV → n ≤ 300 → B < 60 → Tame r := fun h => h.tame 60 (by decide) (by decide)
  have t21 : ∀ {V n B : Nat} {r : PL}, Sz (60 * 60 * 60) V n B r → V ≤ VV → n ≤ 300 → B < 60 → Tame r := fun h => h.tame 1 (by decide) (by decide)
  have t12 : ∀ {V n B : Nat} {r : PL}, Sz (60 * (60 * 60)) V n B r → V ≤ VV → n ≤ 300 → B < 60 → Tame r := fun h => h.tame 1 (by decide) (by decide)
  have a12 := addE (rA none) (rB none) (t60 (zA.app zB) (by decide) (by decide) (by decide))
  have a21 := addE (rB none) (rA none) (t60 (zB.app zA) (by decide) (by decide) (by decide))
  have a23 := addE (rB none) (rD none) (t60 (zB.app zD) (by decide) (by decide) (by decide))
  have m12 := mulE (rA none) (rB none) tnA tnB (t36 (zA.prod zB) (by decide) (by decide) (by decide))
  have m21 := mulE (rB none) (rA none) tnB tnA (t36 (zB.prod zA) (by decide) (by decide) (by decide))
  have m13 := mulE (rA none) (rD none) tnA tnD (t36 (zA.prod zD) (by decide) (by decide) (by decide))
  have m23 := mulE (rB none) (rD none) tnB tnD (t36 (zB.prod zD) (by decide) (by decide) (by decide))
  rw [nn_add] at a12 a21 a23
  rw [nn_prod] at m12 m21 m13 m23
  have z12 := (hz1.prod hz2).norm (by decide)
  have z13 := (hz1.prod hz3).norm (by decide)
  have z23 := (hz2.prod hz3).norm (by decide)
  have y23 := (hz2.app hz3).norm (by decide)
  have m123 := mulE m12 (rD none) (t36 z12 (by decide) (by decide) (by decide)) tnD (t21 (z12.prod zD) (by decide) (by decide) (by decide))
  have m123' := mulE (rA none) m23 tnA (t36 z23 (by decide) (by decide) (by decide)) (t12 (zA.prod z23) (by decide) (by decide) (by decide))
  have d1 := mulE (rA none) a23 tnA (t60 y23 (by decide) (by decide) (by decide)) (t36 (zA.prod y23) (by decide) (by decide) (by decide))
  have d2 := addE m12 m13 (t36 (z12.app z13) (by decide) (by decide) (by decide))
  have e123 : norm (prodL (norm (prodL a b)) (norm d)) = norm (prodL (norm a) (norm (prodL b d))) := by
    have l1 : norm (prodL (norm (prodL a b)) (norm d)) = norm (prodL (norm (prodL a b)) d) := norm_eq fun φ => by rw [pw_prodn']
    have l2 : norm (prodL (norm a) (norm (prodL b d))) = norm (prodL a (norm (prodL b d))) := norm_eq fun φ => by rw [pw_prodn]
    rw [l1, l2, prod_assoc]
  have eD : norm (prodL (norm a) (norm (b ++ d))) = norm (norm (prodL a b) ++ norm (prodL a d)) := by
    have l2 : norm (prodL (norm a) (norm (b ++ d))) = norm (prodL a (norm (b ++ d))) := norm_eq fun φ => by rw [pw_prodn]
    rw [l2, prod_add]
  rw [← e123] at m123'
  rw [eD] at d1
  rw [add_comm'] at a21
  rw [prod_comm] at m21
  have prs1 : ∀ {e : IE} {s : PL}, ev Φ e (ρR a b d T none R) S = .ok (.p (rowP s)) S → ev Φ (.meth true 0 "pairs" prs (.cons e .nil)) (ρR a b d T none R) S = .ok (.p (.lst (s.map pairP))) S := fun he => ev_m1 he (fun S => na_pairs S _) fun S => by rw [h6]; exact pairs_1 _ S
  have tab : Tame (a ++ b) := t60 (hz1.app hz2) (by decide) (by decide) (by decide)
  have pA : ev Φ (.call true pl [] (.cons (.o2 .add (.var 3) (.var 4)) .nil)) (ρR a b d T none R) S = .ok (.p (.lst ((norm (a ++ b)).map pairP))) S := ev_c1 (ev_o2 (o := .add) (vA _ _ _ S) (vB _ _ _ S) (add_pl a b (by have := hz1.len; have := hz2.len; omega))) fun S => by rw [h9]; exact plain_1 tab S
  have s5 := ex_if0 (Φ := Φ) (fuel := fuel) (a := .cons (.ret true (.cst (.bl false))) .nil) (ρ := ρR a b d T none R) (S := S)
    (evT_or0 (evT_p (ev_o2 (o := .ne) (prs1 a12) pA (ne_pl _))) (evT_p (ev_o2 (o := .ne) (prs1 m12) (eP T none R S) (ne_pl _))))
  rw [exs_cons, s5]
  dsimp only [Out.andThen]
  have s6 := ex_if0 (Φ := Φ) (fuel := fuel) (a := .cons (.ret true (.cst (.bl false))) .nil) (ρ := ρR a b d T none R) (S := S)
    (evT_or0 (evT_p (ev_neq h10 (norm_can _) m12 m21)) (evT_p (ev_neq h10 (norm_can _) a12 a21)))
  rw [exs_cons, s6]
  dsimp only [Out.andThen]
  have s7 := ex_if0 (Φ := Φ) (fuel := fuel) (a := .cons (.ret true (.cst (.bl false))) .nil) (ρ := ρR a b d T none R) (S := S)
    (evT_or0 (evT_p (ev_neq h10 (norm_can _) m123 m123')) (evT_p (ev_neq h10 (norm_can _) d1 d2)))
  rw [exs_cons, s7]
  dsimp only [Out.andThen]
  -- the numbers
  have len3 : (a ++ b ++ d).length ≤ 15 := by have := hz1.len; have := hz2.len; have := hz3.len; simp only [List.length_append]; omega
  have s8 : ex Φ fuel (.set (.nm 2) (.o2 .add (.lc false [10] (.o2 .ix (.var 10) (.cst (.int 1))) (.nm 10) (.seq (.o2 .add (.o2 .add (.var 3) (.var 4)) (.var 5))) .tt) (.lst false (.cons (.tup (.cons (.cst (.int 0)) (.cons (.cst (.int 1)) .nil))) (.cons (.tup (.cons (.cst (.int 1)) (.cons (.cst (.int 2)) .nil))) .nil))))) (ρR a b d T none R) S = .next (ρR a b d T (some (.p (.lst ((nums3 a b d).map fr)))) R) S := by
    have hsrc : evS Φ (.seq (.o2 .add (.o2 .add (.var 3) (.var 4)) (.var 5))) (ρR a b d T none R) S = .ok ((a ++ b ++ d).map pairP) S := by
      show (ev Φ _ _ _).bind _ = _
      rw [ev_o2 (o := .add) (ev_o2 (o := .add) (vA _ _ _ S) (vB _ _ _ S) (add_pl a b (by simp only [List.length_append] at len3; omega))) (vD _ _ _ S) (add_pl (a ++ b) d (by simp only [List.length_append] at len3 ⊢; omega))]
      rfl
    have l1 := ev_lcs (Φ := Φ) hsrc (own := [10]) (elt := .o2 .ix (.var 10) (.cst (.int 1))) (tg := .nm 10) (cond := .tt) (g := fun x => some (fr x.2)) (fun x _ => by
      have e : ∃ ρ', setTg (.nm 10) (pairP x) (wipeR (ρR a b d T none R) [10]) = some ρ' ∧ ρ'[10]? = some (some (.p (pairP x))) := by
        rw [← hR]
        exact ⟨_, rfl, rfl⟩
      obtain ⟨ρ', e1, e2⟩ := e
      exact step_ok e1 ev_tt fun _ => ev_o2 (o := .ix) (a := .var 10) (x := pairP x) (y := .int 1) (ev_var e2) rfl (ix1 _ _)) (by omega)
    rw [fm_map] at l1
    have l2 : ev Φ (.lst false (.cons (.tup (.cons (.cst (.int 0)) (.cons (.cst (.int 1)) .nil))) (.cons (.tup (.cons (.cst (.int 1)) (.cons (.cst (.int 2)) .nil))) .nil))) (ρR a b d T none R) S = .ok (.p (.lst [fr 0, fr (Rat.divInt 1 2)])) S := by
      exact ev_l2 (ev_two (x := .int 0) (y := .int 1) rfl rfl) (ev_two (x := .int 1) (y := .int 2) rfl rfl)
    have ad : prim2 .add (.lst ((a ++ b ++ d).map fun x => fr x.2)) (.lst [fr 0, fr (Rat.divInt 1 2)]) = some (.lst ((nums3 a b d).map fr)) := by
      show (if _ then some (P.lst _) else none) = _
      rw [if_pos (by rw [List.length_map, PySem.sizeLine_eq]; simp only [List.length_cons, List.length_nil]; omega)]
      unfold nums3
      rw [List.map_append (l₁ := (a ++ b ++ d).map (·.2)), List.map_map]
      rfl
    have e := ev_o2 (o := .add) l1 l2 ad
    simp only [ex]
    rw [e, ← hR]
    rfl
  rw [exs_cons, s8]
  dsimp only [Out.andThen]
  have gN : ∀ q ∈ nums3 a b d, Gr 60 4 q := fun q hq => by
    unfold nums3 at hq
    rcases List.mem_append.mp hq with hq | hq
    · obtain ⟨x, hx, rfl⟩ := List.mem_map.mp hq
      rcases List.mem_append.mp hx with hx | hx
      · rcases List.mem_append.mp hx with hx | hx
        · exact hz1.gr x hx
        · exact hz2.gr x hx
      · exact hz3.gr x hx
    · simp only [List.mem_cons, List.not_mem_nil, or_false] at hq
      rcases hq with rfl | rfl
      · exact Gr.zero _ _
      · exact gr_half
  have nL : (nums3 a b d).length ≤ 17 ∧ 2 ≤ (nums3 a b d).length := by
    unfold nums3
    rw [List.length_append, List.length_map]
    simp only [List.length_cons, List.length_nil]
    omega
  generalize nums3 a b d = N at *
  have vN : ∀ S, ev Φ (.o1 .len (.var 2)) (ρR a b d T (some (.p (.lst (N.map fr)))) R) S = .ok (.p (.int N.length)) S := fun S => ev_o1 (o := .len) (a := .var 2) (x := .lst (N.map fr)) rfl (show some (P.int ((N.map fr).length : Nat)) = _ by rw [List.length_map])
  have pick : ∀ (c k : Int), k.natAbs < 2 ^ 50 → ∃ q ∈ N, ev Φ (.o2 .ix (.var 2) (.call false draw [] (.cons (.var 0) (.cons (.o1 .len (.var 2)) .nil)))) (ρR a b d T (some (.p (.lst (N.map fr)))) R) [some (bagP c k)] = .ok (.p (fr q)) [some (bagP (drawC c N.length) (k + 1))] := fun c k hk => by
    have r := draw_range (c := c) (k := k) (m := N.length) (by omega)
    obtain ⟨q, hq, e⟩ := ix_get (l := N) r.1 r.2
    refine ⟨q, hq, ?_⟩
    have dr := ev_draw0 (Φ := Φ) h2 (ρ := ρR a b d T (some (.p (.lst (N.map fr)))) R) (e := .o1 .len (.var 2)) (c := c) (k := k) (m := N.length) rfl (vN _) ⟨hk, by omega, by omega⟩
    exact ev_o2s (o := .ix) (a := .var 2) (x := .lst (N.map fr)) rfl dr e
  obtain ⟨p, hp, e1⟩ := pick c1 k1 (by omega)
  obtain ⟨q, hq, e2⟩ := pick (drawC c1 N.length) (k1 + 1) (by omega)
  have fin := ev_c2s (Φ := Φ) (i := lfr) (z := .bl true) e1 e2 (by
    rw [h11]
    exact callA_2 (F_two_eq (g := fun _ _ => .ok (.p (.bl true)) []) (dom := fun p q => sm2 p q ∧ sm (p / q)) (quot_sm (gN p hp) (gN q hq))))
  rw [exs_cons, ← hS]
  simp only [ex, fin, Res.out, frz, if_true, Out.andThen]
end PD
/-! law. -/
namespace PD
open PySem (sizeLine PyData)
abbrev lawB (bag right : Nat) : IB := (.cons (.iff (.not (.tr (.call false right [] (.cons (.call true bag [] (.cons (.o2 .ix (.var 1) (.var 2)) (.cons (.var 2) .nil))) .nil))))
      (.cons (.ret true (.cst (.bl false)))
      .nil)
      .nil)
      .nil)
def B_law (bag right : Nat) : IB := (.cons (.set (.nm 1) (.o2 .add (.slice (.var 0) false true (.cst .non) (.cst (.int 8))) (.o2 .mul (.lst false (.cons (.cst (.int 0)) .nil)) (.o1 .int (.o2 .eq (.var 0) (.lst false .nil))))))
      (.cons (.for_ (.nm 2) (.rng1 (.o1 .len (.var 1)))
      (.cons (.iff (.not (.tr (.call false right [] (.cons (.call true bag [] (.cons (.o2 .ix (.var 1) (.var 2)) (.cons (.var 2) .nil))) .nil))))
      (.cons (.ret true (.cst (.bl false)))
      .nil)
      .nil)
      .nil))
      (.cons (.ret true (.cst (.bl true)))
      .nil)))
theorem fls_inj {a b : List Int} (h : (P.fls (a.map .int)) = .fls (b.map .int)) : a = b := by
  simp only [P.fls.injEq] at h
  exact map_inj (fun x y hxy => by simpa using hxy) h
noncomputable def F_law : List Arg → LR := dec (α := List Int) (fun ns => [.p (.fls (ns.map .int))]) (fun ns => ns.length ≤ 63) (fun _ => .ok (.p (.bl true)) [])
theorem F_law_eq {ns : List Int} (h : ns.length ≤ 63) : F_law [.p (.fls (ns.map .int))] = .ok (.p (.bl true)) [] := dec_eq (a := ns) (fun a b h => fls_inj (by simpa using h)) h
theorem ix_int {l : List Int} {i : Int} (h0 : 0 ≤ i) (h1 : i < l.length) : ∃ q : Int, prim2 .ix (.lst (l.map .int)) (.int i) = some (.int q) := by
  have hn : i.toNat < l.length := by omega
  refine ⟨l[i.toNat], ?_⟩
  show L2.atI (l.map P.int) i = _
  unfold L2.atI L2.ixN
  rw [List.length_map, if_pos h0, if_pos h1]
  simp [hn]
theorem turn_law (Φ : Nat → List Arg → LR) (fuel bag right : Nat) (h1 : Φ bag = F_bag) (h2 : Φ right = F_lright) (sc : P) (cs : List Int) (i : Int) (h0 : 0 ≤ i) (hi : i < cs.length) (hl : cs.length ≤ 1000) (S : Sto) :
    ∃ S', exs Φ fuel (lawB bag right) [some (.p sc), some (.p (.lst (cs.map .int))), some (.p (.int i))] S = .next [some (.p sc), some (.p (.lst (cs.map .int))), some (.p (.int i))] S' := by
  obtain ⟨q, e⟩ := ix_int h0 hi
  have ei : ev Φ (.o2 .ix (.var 1) (.var 2)) [some (.p sc), some (.p (.lst (cs.map .int))), some (.p (.int i))] S = .ok (.p (.int q)) S := ev_o2 (o := .ix) (a := .var 1) (b := .var 2) (x := .lst (cs.map .int)) (y := .int i) rfl rfl e
  have hk : i.natAbs < 2 ^ 50 := by omega
  have cb : callA (Φ bag) [D.p (.int q), D.p (.int i)] S = .ok (.box S.length) (S ++ [some (bagP (if q < 0 then -q else q) (if q < 0 then 37 * i + 18 else 37 * i))]) := by
    unfold callA
    have ta : toArgs S [D.p (.int q), D.p (.int i)] = some ([.p (.int q), .p (.int i)], []) := rfl
    rw [ta]
    dsimp only
    rw [if_pos ⟨by simp, by simp [boxesA]⟩, h1, F_bag_eq hk]
    dsimp only
    rw [if_pos ⟨rfl, by simp, by simp [O.pure, bagP]⟩]
    rfl
  have eb : ev Φ (.call true bag [] (.cons (.o2 .ix (.var 1) (.var 2)) (.cons (.var 2) .nil))) [some (.p sc), some (.p (.lst (cs.map .int))), some (.p (.int i))] S = .ok (.box S.length) (S ++ [some (bagP (if q < 0 then -q else q) (if q < 0 then 37 * i + 18 else 37 * i))]) := by
    have v2 : ev Φ (.var 2) [some (.p sc), some (.p (.lst (cs.map .int))), some (.p (.int i))] S = .ok (.p (.int i)) S := rfl
    show (((ev Φ (.o2 .ix (.var 1) (.var 2)) _ S).bind _).bind _) = _
    rw [ei]
    simp only [Res.bind, evL]
    rw [v2]
    simp only [Res.bind, if_true, frzL, frz, List.map_cons, List.map_nil, List.append_nil]
    exact cb
  generalize hc : (if q < 0 then -q else q) = c at eb
  generalize hkk : (if q < 0 then 37 * i + 18 else 37 * i) = k at eb
  have hk2 : k.natAbs < 2 ^ 30 := by
    rw [← hkk]
    split <;> omega
  have g : (S ++ [some (bagP c k)])[S.length]? = some (some (bagP c k)) := by simp
  have cr : ∃ S', callA (Φ right) [D.box S.length] (S ++ [some (bagP c k)]) = .ok (.p (.bl true)) S' := by
    unfold callA
    have ta : toArgs (S ++ [some (bagP c k)]) [D.box S.length] = some ([.o (bagP c k)], [S.length]) := by simp [toArgs]
    rw [ta]
    dsimp only
    rw [if_pos ⟨by simp, by simp [boxesA, purO, O.pure, bagP]⟩, h2, F_lright_eq hk2]
    dsimp only
    rw [if_pos ⟨rfl, by simp [O.pure, bagP, bagEnd]⟩]
    exact ⟨_, rfl⟩
  obtain ⟨S', cr⟩ := cr
  refine ⟨S', ?_⟩
  have er : ev Φ (.call false right [] (.cons (.call true bag [] (.cons (.o2 .ix (.var 1) (.var 2)) (.cons (.var 2) .nil))) .nil)) [some (.p sc), some (.p (.lst (cs.map .int))), some (.p (.int i))] S = .ok (.p (.bl true)) S' := by
    show (((ev Φ (.call true bag [] (.cons (.o2 .ix (.var 1) (.var 2)) (.cons (.var 2) .nil))) _ S).bind _).bind _) = _
    rw [eb]
    simp only [Res.bind, evL, Bool.false_eq_true, if_false, List.map_nil, List.append_nil]
    exact cr
  have et : evT Φ (.not (.tr (.call false right [] (.cons (.call true bag [] (.cons (.o2 .ix (.var 1) (.var 2)) (.cons (.var 2) .nil))) .nil)))) [some (.p sc), some (.p (.lst (cs.map .int))), some (.p (.int i))] S = .ok false S' := by
    simp only [evT]
    rw [er]
    rfl
  rw [lawB, exs_cons]
  simp only [ex]
  rw [et]
  simp only [Res.out, Bool.false_eq_true, if_false, exs_nil, Out.andThen]
theorem loop_law (Φ : Nat → List Arg → LR) (fuel bag right : Nat) (h1 : Φ bag = F_bag) (h2 : Φ right = F_lright) (sc : P) (cs : List Int) (hl : cs.length ≤ 1000) : ∀ (its : List Int) (a : Option D) (S : Sto), (∀ i ∈ its, 0 ≤ i ∧ i < cs.length) → ∃ a' S', forO (fun x ρ S => match setTg (.nm 2) x ρ with
      | some ρ => exs Φ fuel (lawB bag right) ρ S
      | none => .bad) (its.map .int) [some (.p sc), some (.p (.lst (cs.map .int))), a] S = .next [some (.p sc), some (.p (.lst (cs.map .int))), a'] S'
  | [], a, S, _ => ⟨a, S, rfl⟩
  | i :: its, a, S, h => by
    have hi := h i List.mem_cons_self
    obtain ⟨S1, e1⟩ := turn_law Φ fuel bag right h1 h2 sc cs i hi.1 hi.2 hl S
    obtain ⟨a', S', e2⟩ := loop_law Φ fuel bag right h1 h2 sc cs hl its (some (.p (.int i))) S1 fun j hj => h j (List.mem_cons_of_mem _ hj)
    refine ⟨a', S', ?_⟩
    rw [List.map_cons, forO]
    have e : setTg (.nm 2) (.int i) [some (.p sc), some (.p (.lst (cs.map .int))), a] = some [some (.p sc), some (.p (.lst (cs.map .int))), some (.p (.int i))] := rfl
    rw [e]
    dsimp only
    rw [e1]
    exact e2
theorem data_fls (ns : List Int) : dataOf (.fls (ns.map .int)) = some (.list (ns.map .int)) := by
  have e : dataOf (.fls (ns.map .int)) = dataOf (.lst (ns.map .int)) := rfl
  rw [e]
  exact data_lst (g := PyData.int) (fun _ => rfl) (fun _ => rfl) (fun x => Nat.zero_le _) ns
theorem eq_nil (ns : List Int) : ∃ b, prim2 .eq (.fls (ns.map .int)) (.lst []) = some (.bl b) := by
  refine ⟨PyData.eqv (.list (ns.map .int)) (.list []), ?_⟩
  show ((match dataOf (.fls (ns.map .int)), dataOf (.lst []) with
    | some d, some e => some (PyData.eqv d e)
    | _, _ => none).map P.bl) = _
  rw [data_fls]
  rfl
theorem ev_rng {Φ : Nat → List Arg → LR} {e : IE} {ρ : List (Option D)} {S S' : Sto} {i : Int} (he : ev Φ e ρ S = .ok (.p (.int i)) S') (hs : small62 i = true) : evS Φ (.rng1 e) ρ S = .ok (rng 0 i) S' := by
  simp only [evS, he, Res.bind, hs, if_true]
theorem mul_lst {l : List P} {k : Int} (h : 0 ≤ k ∧ k < 2 ^ 63 ∧ l.length * k.toNat ≤ sizeLine) : prim2 .mul (.lst l) (.int k) = some (.lst (List.replicate k.toNat l).flatten) := by
  simp only [prim2]
  rw [if_pos ⟨by omega, h.2.1, h.2.2⟩]
theorem law_zs (b : Bool) : ∃ zs : List Int, zs.length ≤ 1 ∧ prim2 .mul (.lst [.int 0]) (.int (if b then 1 else 0)) = some (.lst (zs.map .int)) := by
  have one : 1 ≤ sizeLine := by have := two_le; omega
  cases b
  · refine ⟨[], by simp, ?_⟩
    exact mul_lst (l := [.int 0]) (k := 0) ⟨by decide, by decide, by simp⟩
  · refine ⟨[0], by simp, ?_⟩
    exact mul_lst (l := [.int 0]) (k := 1) ⟨by decide, by decide, by simpa using one⟩
theorem law_sl (Φ : Nat → List Arg → LR) (ns : List Int) (h : ns.length ≤ 63) : ∃ ms : List Int, ms.length ≤ 63 ∧ ev Φ (.slice (.var 0) false true (.cst .non) (.cst (.int 8))) [some (.p (.fls (ns.map .int))), none, none] [] = .ok (.p (.lst (ms.map .int))) [] := by
  refine ⟨(ns.drop (HT.sIx (ns.map P.int).length 0 none)).take (HT.sIx (ns.map P.int).length (ns.map P.int).length (some 8) - HT.sIx (ns.map P.int).length 0 none), ?_, ?_⟩
  · rw [List.length_take, List.length_drop]
    omega
  · rw [List.map_take, List.map_drop]
    rfl
theorem law_cells (Φ : Nat → List Arg → LR) (ns : List Int) (h : ns.length ≤ 63) : ∃ cs : List Int, cs.length ≤ 1000 ∧ ev Φ (.o2 .add (.slice (.var 0) false true (.cst .non) (.cst (.int 8))) (.o2 .mul (.lst false (.cons (.cst (.int 0)) .nil)) (.o1 .int (.o2 .eq (.var 0) (.lst false .nil))))) [some (.p (.fls (ns.map .int))), none, none] [] = .ok (.p (.lst (cs.map .int))) [] := by
  have v0 : ev Φ (.var 0) [some (.p (.fls (ns.map .int))), none, none] [] = .ok (.p (.fls (ns.map .int))) [] := rfl
  obtain ⟨b, eb⟩ := eq_nil ns
  have e0 : ev Φ (.lst false .nil) [some (.p (.fls (ns.map .int))), none, none] [] = .ok (.p (.lst [])) [] := by
    simp [ev, evL, Res.bind, frzL, boxIf, cont, optR]
  have e1 := ev_o2 (o := .eq) v0 e0 eb
  have e2 := ev_o1 (o := .int) e1 (show prim1 .int (.bl b) = some (.int (if b then 1 else 0)) from rfl)
  have e3 : ev Φ (.lst false (.cons (.cst (.int 0)) .nil)) [some (.p (.fls (ns.map .int))), none, none] [] = .ok (.p (.lst [.int 0])) [] := ev_one rfl
  have em := law_zs b
  obtain ⟨zs, hz, em⟩ := em
  have e4 := ev_o2 (o := .mul) e3 e2 em
  have sl := law_sl Φ ns h
  obtain ⟨ms, hm, es⟩ := sl
  refine ⟨ms ++ zs, by rw [List.length_append]; omega, ?_⟩
  refine ev_o2 (o := .add) es e4 ?_
  show (if _ then some (P.lst _) else none) = _
  rw [if_pos (by rw [List.length_map, List.length_map, PySem.sizeLine_eq]; omega), List.map_append]
theorem next_then {ρ : List (Option D)} {S : Sto} {f : List (Option D) → Sto → Out} : (Out.next ρ S).andThen f = f ρ S := rfl
theorem says_law (Φ : Nat → List Arg → LR) (fuel bag right : Nat) (h1 : Φ bag = F_bag) (h2 : Φ right = F_lright) : ∀ as, Says (runB Φ fuel (B_law bag right) 3 (numA 0 as) (boxesA as)) (boxesA as).length (F_law as) := dec_says fun ns h => by
  have h : ns.length ≤ 63 := h
  have cells := law_cells Φ ns h
  obtain ⟨cs, hl, e1⟩ := cells
  have s1 : ex Φ fuel (.set (.nm 1) (.o2 .add (.slice (.var 0) false true (.cst .non) (.cst (.int 8))) (.o2 .mul (.lst false (.cons (.cst (.int 0)) .nil)) (.o1 .int (.o2 .eq (.var 0) (.lst false .nil)))))) [some (.p (.fls (ns.map .int))), none, none] [] = .next [some (.p (.fls (ns.map .int))), some (.p (.lst (cs.map .int))), none] [] := by
    simp only [ex]
    rw [e1]
    rfl
  have hs : evS Φ (.rng1 (.o1 .len (.var 1))) [some (.p (.fls (ns.map .int))), some (.p (.lst (cs.map .int))), none] [] = .ok (((List.range cs.length).map fun (k : Nat) => (k : Int)).map .int) [] := by
    have el : ev Φ (.o1 .len (.var 1)) [some (.p (.fls (ns.map .int))), some (.p (.lst (cs.map .int))), none] [] = .ok (.p (.int cs.length)) [] := ev_o1 (o := .len) (a := .var 1) (x := .lst (cs.map .int)) rfl (show some (P.int ((cs.map P.int).length : Nat)) = _ by rw [List.length_map])
    have sm : small62 (cs.length : Int) = true := by
      unfold small62
      rw [decide_eq_true (by omega), decide_eq_true (by omega)]
      rfl
    have er := ev_rng el sm
    have e : rng 0 (cs.length : Int) = ((List.range cs.length).map fun (k : Nat) => (k : Int)).map P.int := by
      unfold rng
      simp
    rw [e] at er
    exact er
  obtain ⟨a', S', e2⟩ := loop_law Φ fuel bag right h1 h2 (.fls (ns.map .int)) cs hl ((List.range cs.length).map fun (k : Nat) => (k : Int)) none [] fun i hi => by
    obtain ⟨k, hk, rfl⟩ := List.mem_map.mp hi
    have := List.mem_range.mp hk
    omega
  refine ⟨S', runB_ret ?_, rfl, List.take_zero⟩
  show exs Φ fuel (B_law bag right) [some (.p (.fls (ns.map .int))), none, none] [] = _
  rw [B_law, exs_cons, s1, next_then]
  have s2 : ex Φ fuel (.for_ (.nm 2) (.rng1 (.o1 .len (.var 1))) (lawB bag right)) [some (.p (.fls (ns.map .int))), some (.p (.lst (cs.map .int))), none] [] = .next [some (.p (.fls (ns.map .int))), some (.p (.lst (cs.map .int))), a'] S' := by
    rw [ex_for hs]
    exact e2
  rw [exs_cons, s2, next_then]
  rfl
end PD
/-! written by mkpd.py -/
namespace K86
open PySem PD L2
def top (i : Nat) : Stmt := PySem.Challenge.pw_prepaidplans_k86_whole_row_algebra.main.body.getD i (.Pass ⟨0, 0, 0, 0⟩)
/-- 0: is_integer -/
abbrev s_is_integer : Stmt := top 6
def N_is_integer : List Str := ["value", "least", "greatest"]
def b_is_integer : IB := (.cons (.iff (.or (.not (.tr (.o1 (.isA 1 [.int]) (.var 0)))) (.tr (.o1 (.isA 1 [.bool]) (.var 0))))
      (.cons (.ret true (.cst (.bl false)))
      .nil)
      .nil)
      (.cons (.ret true (.and (.or (.o1 .isN (.var 1)) (.o2 .ge (.var 0) (.var 1))) (.or (.o1 .isN (.var 2)) (.o2 .le (.var 0) (.var 2)))))
      .nil))
/-- 1: divisor_of -/
abbrev s_divisor_of : Stmt := top 7
def N_divisor_of : List Str := ["one", "other"]
def b_divisor_of : IB := (.cons (.whl (.tr (.o2 .ne (.var 1) (.cst (.int 0))))
      (.cons (.par 0 1 (.var 1) (.o2 .mod (.var 0) (.var 1)))
      .nil))
      (.cons (.ret true (.o1 .abs (.var 0)))
      .nil))
/-- 2: simplified -/
abbrev s_simplified : Stmt := top 8
def N_simplified : List Str := ["top", "bottom", "common", "sign"]
def b_simplified : IB := (.cons (.set (.nm 2) (.call true 1 [] (.cons (.var 0) (.cons (.var 1) .nil))))
      (.cons (.set (.nm 3) (.ifx (.tr (.o2 .gt (.var 1) (.cst (.int 0)))) (.cst (.int 1)) (.o1 .neg (.cst (.int 1)))))
      (.cons (.ret true (.tup (.cons (.o2 .fdiv (.o2 .mul (.var 3) (.var 0)) (.var 2)) (.cons (.o2 .fdiv (.o2 .mul (.var 3) (.var 1)) (.var 2)) .nil))))
      .nil)))
/-- 3: is_fraction -/
abbrev s_is_fraction : Stmt := top 9
def N_is_fraction : List Str := ["value"]
def b_is_fraction : IB := (.cons (.iff (.or (.not (.tr (.o1 (.isA 1 [.tup]) (.var 0)))) (.or (.tr (.o2 .ne (.o1 .len (.var 0)) (.cst (.int 2)))) (.or (.not (.tr (.call true 0 [.non, .non] (.cons (.o2 .ix (.var 0) (.cst (.int 0))) .nil)))) (.not (.tr (.call true 0 [.non] (.cons (.o2 .ix (.var 0) (.cst (.int 1))) (.cons (.cst (.int 1)) .nil))))))))
      (.cons (.ret true (.cst (.bl false)))
      .nil)
      .nil)
      (.cons (.ret true (.o2 .eq (.call true 1 [] (.cons (.o2 .ix (.var 0) (.cst (.int 0))) (.cons (.o2 .ix (.var 0) (.cst (.int 1))) .nil))) (.cst (.int 1))))
      .nil))
/-- 4: check_fractions -/
abbrev s_check_fractions : Stmt := top 10
def N_check_fractions : List Str := ["one", "other"]
def b_check_fractions : IB := (.cons (.iff (.or (.not (.tr (.call true 3 [] (.cons (.var 0) .nil)))) (.not (.tr (.call true 3 [] (.cons (.var 1) .nil)))))
      (.cons .bad
      .nil)
      .nil)
      .nil)
/-- 5: fraction -/
abbrev s_fraction : Stmt := top 11
def N_fraction : List Str := ["top", "bottom"]
def b_fraction : IB := (.cons (.iff (.or (.not (.tr (.call true 0 [.non, .non] (.cons (.var 0) .nil)))) (.or (.not (.tr (.call true 0 [.non, .non] (.cons (.var 1) .nil)))) (.tr (.o2 .eq (.var 1) (.cst (.int 0))))))
      (.cons .bad
      .nil)
      .nil)
      (.cons (.ret true (.call true 2 [] (.cons (.var 0) (.cons (.var 1) .nil))))
      .nil))
/-- 6: plus -/
abbrev s_plus : Stmt := top 12
def N_plus : List Str := ["one", "other"]
def b_plus : IB := (.cons (.ex (.call true 4 [] (.cons (.var 0) (.cons (.var 1) .nil))))
      (.cons (.ret true (.call true 2 [] (.cons (.o2 .add (.o2 .mul (.o2 .ix (.var 0) (.cst (.int 0))) (.o2 .ix (.var 1) (.cst (.int 1)))) (.o2 .mul (.o2 .ix (.var 1) (.cst (.int 0))) (.o2 .ix (.var 0) (.cst (.int 1))))) (.cons (.o2 .mul (.o2 .ix (.var 0) (.cst (.int 1))) (.o2 .ix (.var 1) (.cst (.int 1)))) .nil))))
      .nil))
/-- 7: minus -/
abbrev s_minus : Stmt := top 13
def N_minus : List Str := ["one", "other"]
def b_minus : IB := (.cons (.ex (.call true 4 [] (.cons (.var 0) (.cons (.var 1) .nil))))
      (.cons (.ret true (.call true 2 [] (.cons (.o2 .sub (.o2 .mul (.o2 .ix (.var 0) (.cst (.int 0))) (.o2 .ix (.var 1) (.cst (.int 1)))) (.o2 .mul (.o2 .ix (.var 1) (.cst (.int 0))) (.o2 .ix (.var 0) (.cst (.int 1))))) (.cons (.o2 .mul (.o2 .ix (.var 0) (.cst (.int 1))) (.o2 .ix (.var 1) (.cst (.int 1)))) .nil))))
      .nil))
/-- 8: times -/
abbrev s_times : Stmt := top 14
def N_times : List Str := ["one", "other"]
def b_times : IB := (.cons (.ex (.call true 4 [] (.cons (.var 0) (.cons (.var 1) .nil))))
      (.cons (.ret true (.call true 2 [] (.cons (.o2 .mul (.o2 .ix (.var 0) (.cst (.int 0))) (.o2 .ix (.var 1) (.cst (.int 0)))) (.cons (.o2 .mul (.o2 .ix (.var 0) (.cst (.int 1))) (.o2 .ix (.var 1) (.cst (.int 1)))) .nil))))
      .nil))
/-- 9: over -/
abbrev s_over : Stmt := top 15
def N_over : List Str := ["one", "other"]
def b_over : IB := (.cons (.ex (.call true 4 [] (.cons (.var 0) (.cons (.var 1) .nil))))
      (.cons (.iff (.tr (.o2 .eq (.o2 .ix (.var 1) (.cst (.int 0))) (.cst (.int 0))))
      (.cons .bad
      .nil)
      .nil)
      (.cons (.ret true (.call true 2 [] (.cons (.o2 .mul (.o2 .ix (.var 0) (.cst (.int 0))) (.o2 .ix (.var 1) (.cst (.int 1)))) (.cons (.o2 .mul (.o2 .ix (.var 0) (.cst (.int 1))) (.o2 .ix (.var 1) (.cst (.int 0)))) .nil))))
      .nil)))
/-- 10: is_less -/
abbrev s_is_less : Stmt := top 16
def N_is_less : List Str := ["one", "other"]
def b_is_less : IB := (.cons (.ex (.call true 4 [] (.cons (.var 0) (.cons (.var 1) .nil))))
      (.cons (.ret true (.o2 .lt (.o2 .mul (.o2 .ix (.var 0) (.cst (.int 0))) (.o2 .ix (.var 1) (.cst (.int 1)))) (.o2 .mul (.o2 .ix (.var 1) (.cst (.int 0))) (.o2 .ix (.var 0) (.cst (.int 1))))))
      .nil))
/-- 11: is_pair -/
abbrev s_is_pair : Stmt := top 17
def N_is_pair : List Str := ["value"]
def b_is_pair : IB := (.cons (.ret true (.and (.o1 (.isA 1 [.tup]) (.var 0)) (.and (.o2 .eq (.o1 .len (.var 0)) (.cst (.int 2))) (.and (.call true 0 [.non] (.cons (.o2 .ix (.var 0) (.cst (.int 0))) (.cons (.cst (.int 0)) .nil))) (.call true 3 [] (.cons (.o2 .ix (.var 0) (.cst (.int 1))) .nil))))))
      .nil)
/-- 12: check_tick -/
abbrev s_check_tick : Stmt := top 18
def N_check_tick : List Str := ["value"]
def b_check_tick : IB := (.cons (.iff (.not (.tr (.call true 0 [.non] (.cons (.var 0) (.cons (.cst (.int 0)) .nil)))))
      (.cons .bad
      .nil)
      .nil)
      .nil)
/-- 13: Row.__init__ -/
abbrev s_Row___init : Stmt := inClass (top 19) 0
def N_Row___init : List Str := ["self", "pairs", "found", "tick", "share", "pair"]
def b_Row___init : IB := (.cons (.iff (.or (.not (.tr (.o1 (.isA 1 [.lst, .tup]) (.var 1)))) (.not (.tr (.o1 .all (.lc false [5] (.call true 11 [] (.cons (.var 5) .nil)) (.nm 5) (.seq (.var 1)) .tt)))))
      (.cons .bad
      .nil)
      .nil)
      (.cons (.set (.nm 2) .dnew)
      (.cons (.for_ (.tp [3, 4]) (.seq (.var 1))
      (.cons (.ixset (.var 2) (.var 3) (.call true 6 [] (.cons (.get (.var 2) (.var 3) (.tup (.cons (.cst (.int 0)) (.cons (.cst (.int 1)) .nil)))) (.cons (.var 4) .nil))))
      .nil))
      (.cons (.fset 0 "shares" (.var 0) (.dc false [3] (.var 3) (.o2 .ix (.var 2) (.var 3)) (.nm 3) (.seq (.o1 .sortedI (.var 2))) (.tr (.o2 .ne (.o2 .ix (.o2 .ix (.var 2) (.var 3)) (.cst (.int 0))) (.cst (.int 0))))))
      .nil))))
/-- 14: Row.pairs -/
abbrev s_Row_pairs : Stmt := inClass (top 19) 1
def N_Row_pairs : List Str := ["self"]
def b_Row_pairs : IB := (.cons (.ret true (.o1 .itemsL (.fld 0 "shares" (.var 0))))
      .nil)
/-- 15: Row.__add__ -/
abbrev s_Row___add : Stmt := inClass (top 19) 2
def N_Row___add : List Str := ["self", "other"]
def b_Row___add : IB := (.cons (.iff (.not (.tr (.o1 (.isA 1 [(.cls 0)]) (.var 1))))
      (.cons .bad
      .nil)
      .nil)
      (.cons (.ret true (.mk true 0 13 [] (.cons (.o2 .add (.meth true 0 "pairs" 14 (.cons (.var 0) .nil)) (.meth true 0 "pairs" 14 (.cons (.var 1) .nil))) .nil)))
      .nil))
/-- 16: Row.__mul__ -/
abbrev s_Row___mul : Stmt := inClass (top 19) 3
def N_Row___mul : List Str := ["self", "other", "found", "tick", "share", "later", "more"]
def b_Row___mul : IB := (.cons (.iff (.not (.tr (.o1 (.isA 1 [(.cls 0)]) (.var 1))))
      (.cons .bad
      .nil)
      .nil)
      (.cons (.set (.nm 2) (.lst true .nil))
      (.cons (.for_ (.tp [3, 4]) (.seq (.meth true 0 "pairs" 14 (.cons (.var 0) .nil)))
      (.cons (.auge 2 (.lc false [5, 6] (.tup (.cons (.o2 .add (.var 3) (.var 5)) (.cons (.call true 8 [] (.cons (.var 4) (.cons (.var 6) .nil))) .nil))) (.tp [5, 6]) (.seq (.meth true 0 "pairs" 14 (.cons (.var 1) .nil))) .tt))
      .nil))
      (.cons (.ret true (.mk true 0 13 [] (.cons (.var 2) .nil)))
      .nil))))
/-- 17: Row.moved -/
abbrev s_Row_moved : Stmt := inClass (top 19) 4
def N_Row_moved : List Str := ["self", "ticks", "tick", "share"]
def b_Row_moved : IB := (.cons (.ex (.call true 12 [] (.cons (.var 1) .nil)))
      (.cons (.ret true (.mk true 0 13 [] (.cons (.lc false [2, 3] (.tup (.cons (.o2 .add (.var 2) (.var 1)) (.cons (.var 3) .nil))) (.tp [2, 3]) (.seq (.meth true 0 "pairs" 14 (.cons (.var 0) .nil))) .tt) .nil)))
      .nil))
/-- 18: Row.cut -/
abbrev s_Row_cut : Stmt := inClass (top 19) 5
def N_Row_cut : List Str := ["self", "tick", "here", "share"]
def b_Row_cut : IB := (.cons (.ex (.call true 12 [] (.cons (.var 1) .nil)))
      (.cons (.ret true (.mk true 0 13 [] (.cons (.lc false [2, 3] (.tup (.cons (.var 2) (.cons (.var 3) .nil))) (.tp [2, 3]) (.seq (.meth true 0 "pairs" 14 (.cons (.var 0) .nil))) (.tr (.o2 .le (.var 2) (.var 1)))) .nil)))
      .nil))
/-- 19: Row.at -/
abbrev s_Row_at : Stmt := inClass (top 19) 6
def N_Row_at : List Str := ["self", "tick"]
def b_Row_at : IB := (.cons (.ex (.call true 12 [] (.cons (.var 1) .nil)))
      (.cons (.ret true (.get (.fld 0 "shares" (.var 0)) (.var 1) (.tup (.cons (.cst (.int 0)) (.cons (.cst (.int 1)) .nil)))))
      .nil))
/-- 20: Row.up_to -/
abbrev s_Row_up_to : Stmt := inClass (top 19) 7
def N_Row_up_to : List Str := ["self", "tick"]
def b_Row_up_to : IB := (.cons (.ret true (.meth true 0 "total" 21 (.cons (.meth true 0 "cut" 18 (.cons (.var 0) (.cons (.var 1) .nil))) .nil)))
      .nil)
/-- 21: Row.total -/
abbrev s_Row_total : Stmt := inClass (top 19) 8
def N_Row_total : List Str := ["self", "found", "tick", "share"]
def b_Row_total : IB := (.cons (.set (.nm 1) (.tup (.cons (.cst (.int 0)) (.cons (.cst (.int 1)) .nil))))
      (.cons (.for_ (.tp [2, 3]) (.seq (.meth true 0 "pairs" 14 (.cons (.var 0) .nil)))
      (.cons (.set (.nm 1) (.call true 6 [] (.cons (.var 1) (.cons (.var 3) .nil))))
      .nil))
      (.cons (.ret true (.var 1))
      .nil)))
/-- 22: Row.__len__ -/
abbrev s_Row___len : Stmt := inClass (top 19) 9
def N_Row___len : List Str := ["self"]
def b_Row___len : IB := (.cons (.ret true (.o1 .len (.fld 0 "shares" (.var 0))))
      .nil)
/-- 23: Row.__contains__ -/
abbrev s_Row___contains : Stmt := inClass (top 19) 10
def N_Row___contains : List Str := ["self", "tick"]
def b_Row___contains : IB := (.cons (.ret true (.and (.call true 0 [.non] (.cons (.var 1) (.cons (.cst (.int 0)) .nil))) (.o2 .mem (.var 1) (.fld 0 "shares" (.var 0)))))
      .nil)
/-- 24: Row.__eq__ -/
abbrev s_Row___eq : Stmt := inClass (top 19) 11
def N_Row___eq : List Str := ["self", "other"]
def b_Row___eq : IB := (.cons (.ret true (.and (.o1 (.isA 1 [(.cls 0)]) (.var 1)) (.o2 .eq (.fld 0 "shares" (.var 0)) (.fld 0 "shares" (.var 1)))))
      .nil)
/-- 25: _law_bag -/
abbrev s_law_bag : Stmt := top 21
def N_law_bag : List Str := ["cell", "k"]
def b_law_bag : IB := (.cons (.iff (.tr (.o2 .lt (.var 0) (.cst (.int 0))))
      (.cons (.ret false (.lst true (.cons (.o1 .neg (.var 0)) (.cons (.o2 .add (.o2 .mul (.cst (.int 37)) (.var 1)) (.cst (.int 18))) .nil))))
      .nil)
      .nil)
      (.cons (.ret false (.lst true (.cons (.var 0) (.cons (.o2 .mul (.cst (.int 37)) (.var 1)) .nil))))
      .nil))
/-- 26: _law_draw -/
abbrev s_law_draw : Stmt := top 22
def N_law_draw : List Str := ["bag", "many", "one", "digit"]
def b_law_draw : IB := (.cons (.ixaug .add (.var 0) (.cst (.int 1)) (.cst (.int 1)))
      (.cons (.iff (.tr (.o2 .ge (.o2 .ix (.var 0) (.cst (.int 0))) (.o2 .pow (.cst (.int 10)) (.cst (.int 18)))))
      (.cons (.set (.nm 3) (.o2 .mod (.o1 .int (.o2 .ix (.var 0) (.cst (.int 0)))) (.var 1)))
      (.cons (.ixset (.var 0) (.cst (.int 0)) (.o2 .fdiv (.o2 .ix (.var 0) (.cst (.int 0))) (.var 1)))
      (.cons (.ret true (.var 3))
      .nil)))
      .nil)
      (.cons (.set (.nm 2) (.o2 .mod (.o1 .int (.o2 .add (.o2 .add (.o2 .mod (.o1 .int (.o2 .ix (.var 0) (.cst (.int 0)))) (.cst (.int 2147483629))) (.o2 .mul (.cst (.int 104729)) (.o2 .ix (.var 0) (.cst (.int 1))))) (.cst (.int 1)))) (.cst (.int 2147483587))))
      (.cons (.set (.nm 2) (.o2 .mod (.o1 .int (.o2 .mul (.var 2) (.var 2))) (.cst (.int 2147483587))))
      (.cons (.set (.nm 2) (.o2 .mod (.o1 .int (.o2 .add (.var 2) (.o2 .mul (.cst (.int 40692)) (.o2 .ix (.var 0) (.cst (.int 1)))))) (.cst (.int 2147483563))))
      (.cons (.set (.nm 2) (.o2 .mod (.o1 .int (.o2 .mul (.var 2) (.var 2))) (.cst (.int 2147483563))))
      (.cons (.ret true (.o2 .mod (.o1 .int (.o2 .fdiv (.var 2) (.cst (.int 8)))) (.var 1)))
      .nil)))))))
/-- 27: _law_low -/
abbrev s_law_low : Stmt := top 23
def N_law_low : List Str := ["top", "bottom", "one", "other"]
def b_law_low : IB := (.cons (.par 2 3 (.o1 .abs (.var 0)) (.var 1))
      (.cons (.whl (.tr (.o2 .ne (.var 3) (.cst (.int 0))))
      (.cons (.par 2 3 (.var 3) (.o2 .mod (.o1 .int (.var 2)) (.var 3)))
      .nil))
      (.cons (.ret true (.tup (.cons (.o2 .fdiv (.var 0) (.var 2)) (.cons (.o2 .fdiv (.var 1) (.var 2)) .nil))))
      .nil)))
/-- 28: _law_pairs -/
abbrev s_law_pairs : Stmt := top 24
def N_law_pairs : List Str := ["bag", "found", "k"]
def b_law_pairs : IB := (.cons (.set (.nm 1) (.lst true .nil))
      (.cons (.for_ (.nm 2) (.rng1 (.call false 26 [] (.cons (.var 0) (.cons (.cst (.int 6)) .nil))))
      (.cons (.ex (.mut .append (.var 1) (.tup (.cons (.call false 26 [] (.cons (.var 0) (.cons (.cst (.int 5)) .nil))) (.cons (.call true 27 [] (.cons (.o2 .sub (.call false 26 [] (.cons (.var 0) (.cons (.cst (.int 9)) .nil))) (.cst (.int 4))) (.cons (.o2 .add (.cst (.int 1)) (.call false 26 [] (.cons (.var 0) (.cons (.cst (.int 6)) .nil)))) .nil))) .nil)))))
      .nil))
      (.cons (.ret true (.var 1))
      .nil)))
/-- 29: _law_added -/
abbrev s_law_added : Stmt := top 25
def N_law_added : List Str := ["one", "two"]
def b_law_added : IB := (.cons (.ret true (.call true 27 [] (.cons (.o2 .add (.o2 .mul (.o2 .ix (.var 0) (.cst (.int 0))) (.o2 .ix (.var 1) (.cst (.int 1)))) (.o2 .mul (.o2 .ix (.var 1) (.cst (.int 0))) (.o2 .ix (.var 0) (.cst (.int 1))))) (.cons (.o2 .mul (.o2 .ix (.var 0) (.cst (.int 1))) (.o2 .ix (.var 1) (.cst (.int 1)))) .nil))))
      .nil)
/-- 30: _law_times -/
abbrev s_law_times : Stmt := top 26
def N_law_times : List Str := ["one", "two"]
def b_law_times : IB := (.cons (.ret true (.call true 27 [] (.cons (.o2 .mul (.o2 .ix (.var 0) (.cst (.int 0))) (.o2 .ix (.var 1) (.cst (.int 0)))) (.cons (.o2 .mul (.o2 .ix (.var 0) (.cst (.int 1))) (.o2 .ix (.var 1) (.cst (.int 1)))) .nil))))
      .nil)
/-- 31: _law_plain -/
abbrev s_law_plain : Stmt := top 27
def N_law_plain : List Str := ["pairs", "sums", "tick", "number"]
def b_law_plain : IB := (.cons (.set (.nm 1) .dnew)
      (.cons (.for_ (.tp [2, 3]) (.seq (.var 0))
      (.cons (.ixset (.var 1) (.var 2) (.call true 29 [] (.cons (.get (.var 1) (.var 2) (.tup (.cons (.cst (.int 0)) (.cons (.cst (.int 1)) .nil)))) (.cons (.var 3) .nil))))
      .nil))
      (.cons (.ret true (.lc false [2] (.tup (.cons (.var 2) (.cons (.o2 .ix (.var 1) (.var 2)) .nil))) (.nm 2) (.seq (.o1 .sortedI (.var 1))) (.tr (.o2 .ne (.o2 .ix (.var 1) (.var 2)) (.tup (.cons (.cst (.int 0)) (.cons (.cst (.int 1)) .nil)))))))
      .nil)))
/-- 32: _law_product -/
abbrev s_law_product : Stmt := top 28
def N_law_product : List Str := ["one", "two", "found", "tick", "number", "other", "value"]
def b_law_product : IB := (.cons (.set (.nm 2) (.lst true .nil))
      (.cons (.for_ (.tp [3, 4]) (.seq (.var 0))
      (.cons (.ex (.mut .extend (.var 2) (.lc false [5, 6] (.tup (.cons (.o2 .add (.var 3) (.var 5)) (.cons (.call true 30 [] (.cons (.var 4) (.cons (.var 6) .nil))) .nil))) (.tp [5, 6]) (.seq (.var 1)) .tt)))
      .nil))
      (.cons (.ret true (.call true 31 [] (.cons (.var 2) .nil)))
      .nil)))
/-- 33: _law_sum -/
abbrev s_law_sum : Stmt := top 29
def N_law_sum : List Str := ["pairs", "total", "tick", "number"]
def b_law_sum : IB := (.cons (.set (.nm 1) (.tup (.cons (.cst (.int 0)) (.cons (.cst (.int 1)) .nil))))
      (.cons (.for_ (.tp [2, 3]) (.seq (.var 0))
      (.cons (.set (.nm 1) (.call true 29 [] (.cons (.var 1) (.cons (.var 3) .nil))))
      .nil))
      (.cons (.ret true (.var 1))
      .nil)))
/-- 34: _law_one_right -/
abbrev s_law_one_right : Stmt := top 30
def N_law_one_right : List Str := ["pairs", "tick", "ahead", "ticks", "row", "plain", "pair", "place", "number"]
def b_law_one_right : IB := (.cons (.set (.tp [4, 5]) (.tup (.cons (.mk true 0 13 [] (.cons (.var 0) .nil)) (.cons (.call true 31 [] (.cons (.var 0) .nil)) .nil))))
      (.cons (.iff (.or (.tr (.o2 .ne (.meth true 0 "pairs" 14 (.cons (.var 4) .nil)) (.var 5))) (.or (.tr (.o2 .ne (.own1 0 22 (.var 4)) (.o1 .len (.var 5)))) (.tr (.o2 .ne (.meth true 0 "total" 21 (.cons (.var 4) .nil)) (.call true 33 [] (.cons (.var 5) .nil))))))
      (.cons (.ret true (.cst (.bl false)))
      .nil)
      .nil)
      (.cons (.iff (.tr (.o2 .ne (.meth true 0 "pairs" 14 (.cons (.meth true 0 "moved" 17 (.cons (.var 4) (.cons (.var 1) .nil))) .nil)) (.lc false [7, 8] (.tup (.cons (.o2 .add (.var 7) (.var 1)) (.cons (.var 8) .nil))) (.tp [7, 8]) (.seq (.var 5)) .tt)))
      (.cons (.ret true (.cst (.bl false)))
      .nil)
      .nil)
      (.cons (.iff (.tr (.ne 0 24 (.meth true 0 "moved" 17 (.cons (.var 4) (.cons (.var 1) .nil))) (.own2 0 16 (.var 4) (.mk true 0 13 [] (.cons (.lst false (.cons (.tup (.cons (.var 1) (.cons (.tup (.cons (.cst (.int 1)) (.cons (.cst (.int 1)) .nil))) .nil))) .nil)) .nil)))))
      (.cons (.ret true (.cst (.bl false)))
      .nil)
      .nil)
      (.cons (.set (.nm 2) (.lc false [6] (.var 6) (.nm 6) (.seq (.var 5)) (.tr (.o2 .le (.o2 .ix (.var 6) (.cst (.int 0))) (.var 1)))))
      (.cons (.iff (.or (.tr (.o2 .ne (.meth true 0 "pairs" 14 (.cons (.meth true 0 "cut" 18 (.cons (.var 4) (.cons (.var 1) .nil))) .nil)) (.var 2))) (.tr (.o2 .ne (.meth true 0 "up_to" 20 (.cons (.var 4) (.cons (.var 1) .nil))) (.call true 33 [] (.cons (.var 2) .nil)))))
      (.cons (.ret true (.cst (.bl false)))
      .nil)
      .nil)
      (.cons (.iff (.tr (.o2 .ne (.meth true 0 "at" 19 (.cons (.var 4) (.cons (.var 1) .nil))) (.call true 33 [] (.cons (.lc false [6] (.var 6) (.nm 6) (.seq (.var 5)) (.tr (.o2 .eq (.o2 .ix (.var 6) (.cst (.int 0))) (.var 1)))) .nil))))
      (.cons (.ret true (.cst (.bl false)))
      .nil)
      .nil)
      (.cons (.set (.nm 3) (.lc false [7] (.var 7) (.nm 7) (.rng1 (.cst (.int 9))) (.tr (.isin 0 23 (.var 7) (.var 4)))))
      (.cons (.ret true (.and (.o2 .eq (.var 3) (.lc false [6] (.o2 .ix (.var 6) (.cst (.int 0))) (.nm 6) (.seq (.var 5)) .tt)) (.and (.own2 0 24 (.var 4) (.mk true 0 13 [] (.cons (.o1 .tuple (.o1 .rev (.var 0))) .nil))) (.own2 0 24 (.var 4) (.mk true 0 13 [] (.cons (.var 5) .nil))))))
      .nil)))))))))
/-- 35: _law_fractions_right -/
abbrev s_law_fractions_right : Stmt := top 31
def N_law_fractions_right : List Str := ["one", "two"]
def b_law_fractions_right : IB := (.cons (.iff (.or (.tr (.o2 .ne (.call true 6 [] (.cons (.var 0) (.cons (.var 1) .nil))) (.call true 29 [] (.cons (.var 0) (.cons (.var 1) .nil))))) (.tr (.o2 .ne (.call true 8 [] (.cons (.var 0) (.cons (.var 1) .nil))) (.call true 30 [] (.cons (.var 0) (.cons (.var 1) .nil))))))
      (.cons (.ret true (.cst (.bl false)))
      .nil)
      .nil)
      (.cons (.iff (.or (.tr (.o2 .ne (.call true 7 [] (.cons (.var 0) (.cons (.var 1) .nil))) (.call true 29 [] (.cons (.var 0) (.cons (.tup (.cons (.o1 .neg (.o2 .ix (.var 1) (.cst (.int 0)))) (.cons (.o2 .ix (.var 1) (.cst (.int 1))) .nil))) .nil))))) (.tr (.o2 .ne (.call true 5 [] (.cons (.o2 .mul (.cst (.int 3)) (.o2 .ix (.var 0) (.cst (.int 0)))) (.cons (.o2 .mul (.cst (.int 3)) (.o2 .ix (.var 0) (.cst (.int 1)))) .nil))) (.var 0))))
      (.cons (.ret true (.cst (.bl false)))
      .nil)
      .nil)
      (.cons (.iff (.tr (.o2 .ne (.call true 10 [] (.cons (.var 0) (.cons (.var 1) .nil))) (.o2 .lt (.o2 .mul (.o2 .ix (.var 0) (.cst (.int 0))) (.o2 .ix (.var 1) (.cst (.int 1)))) (.o2 .mul (.o2 .ix (.var 1) (.cst (.int 0))) (.o2 .ix (.var 0) (.cst (.int 1)))))))
      (.cons (.ret true (.cst (.bl false)))
      .nil)
      .nil)
      (.cons (.ret true (.or (.o2 .eq (.o2 .ix (.var 1) (.cst (.int 0))) (.cst (.int 0))) (.o2 .eq (.call true 8 [] (.cons (.call true 9 [] (.cons (.var 0) (.cons (.var 1) .nil))) (.cons (.var 1) .nil))) (.var 0))))
      .nil))))
/-- 36: _law_right -/
abbrev s_law_right : Stmt := top 32
def N_law_right : List Str := ["bag", "tick", "numbers", "one", "two", "three", "here", "there", "third", "k", "pair"]
def b_law_right : IB := (.cons (.set (.tp [3, 4, 5]) (.lc false [9] (.call false 28 [] (.cons (.var 0) .nil)) (.nm 9) (.rng1 (.cst (.int 3))) .tt))
      (.cons (.set (.nm 1) (.call false 26 [] (.cons (.var 0) (.cons (.cst (.int 6)) .nil))))
      (.cons (.iff (.or (.not (.tr (.call true 34 [] (.cons (.var 3) (.cons (.var 1) .nil))))) (.not (.tr (.call true 34 [] (.cons (.call true 32 [] (.cons (.var 3) (.cons (.var 4) .nil))) (.cons (.var 1) .nil))))))
      (.cons (.ret true (.cst (.bl false)))
      .nil)
      .nil)
      (.cons (.par3 6 7 8 (.mk true 0 13 [] (.cons (.var 3) .nil)) (.mk true 0 13 [] (.cons (.var 4) .nil)) (.mk true 0 13 [] (.cons (.var 5) .nil)))
      (.cons (.iff (.or (.tr (.o2 .ne (.meth true 0 "pairs" 14 (.cons (.own2 0 15 (.var 6) (.var 7)) .nil)) (.call true 31 [] (.cons (.o2 .add (.var 3) (.var 4)) .nil)))) (.tr (.o2 .ne (.meth true 0 "pairs" 14 (.cons (.own2 0 16 (.var 6) (.var 7)) .nil)) (.call true 32 [] (.cons (.var 3) (.cons (.var 4) .nil))))))
      (.cons (.ret true (.cst (.bl false)))
      .nil)
      .nil)
      (.cons (.iff (.or (.tr (.ne 0 24 (.own2 0 16 (.var 6) (.var 7)) (.own2 0 16 (.var 7) (.var 6)))) (.tr (.ne 0 24 (.own2 0 15 (.var 6) (.var 7)) (.own2 0 15 (.var 7) (.var 6)))))
      (.cons (.ret true (.cst (.bl false)))
      .nil)
      .nil)
      (.cons (.iff (.or (.tr (.ne 0 24 (.own2 0 16 (.own2 0 16 (.var 6) (.var 7)) (.var 8)) (.own2 0 16 (.var 6) (.own2 0 16 (.var 7) (.var 8))))) (.tr (.ne 0 24 (.own2 0 16 (.var 6) (.own2 0 15 (.var 7) (.var 8))) (.own2 0 15 (.own2 0 16 (.var 6) (.var 7)) (.own2 0 16 (.var 6) (.var 8))))))
      (.cons (.ret true (.cst (.bl false)))
      .nil)
      .nil)
      (.cons (.set (.nm 2) (.o2 .add (.lc false [10] (.o2 .ix (.var 10) (.cst (.int 1))) (.nm 10) (.seq (.o2 .add (.o2 .add (.var 3) (.var 4)) (.var 5))) .tt) (.lst false (.cons (.tup (.cons (.cst (.int 0)) (.cons (.cst (.int 1)) .nil))) (.cons (.tup (.cons (.cst (.int 1)) (.cons (.cst (.int 2)) .nil))) .nil)))))
      (.cons (.ret true (.call true 35 [] (.cons (.o2 .ix (.var 2) (.call false 26 [] (.cons (.var 0) (.cons (.o1 .len (.var 2)) .nil)))) (.cons (.o2 .ix (.var 2) (.call false 26 [] (.cons (.var 0) (.cons (.o1 .len (.var 2)) .nil)))) .nil))))
      .nil)))))))))
/-- 37: law -/
abbrev s_law : Stmt := top 33
def N_law : List Str := ["script", "cells", "k"]
def b_law : IB := (.cons (.set (.nm 1) (.o2 .add (.slice (.var 0) false true (.cst .non) (.cst (.int 8))) (.o2 .mul (.lst false (.cons (.cst (.int 0)) .nil)) (.o1 .int (.o2 .eq (.var 0) (.lst false .nil))))))
      (.cons (.for_ (.nm 2) (.rng1 (.o1 .len (.var 1)))
      (.cons (.iff (.not (.tr (.call false 36 [] (.cons (.call true 25 [] (.cons (.o2 .ix (.var 1) (.var 2)) (.cons (.var 2) .nil))) .nil))))
      (.cons (.ret true (.cst (.bl false)))
      .nil)
      .nil)
      .nil))
      (.cons (.ret true (.cst (.bl true)))
      .nil)))
def tab : Tab where
  fns := [("_law_added", 29, []), ("_law_bag", 25, []), ("_law_draw", 26, []), ("_law_fractions_right", 35, []), ("_law_low", 27, []), ("_law_one_right", 34, []), ("_law_pairs", 28, []), ("_law_plain", 31, []), ("_law_product", 32, []), ("_law_right", 36, []), ("_law_sum", 33, []), ("_law_times", 30, []), ("check_fractions", 4, []), ("check_tick", 12, []), ("divisor_of", 1, []), ("fraction", 5, []), ("is_fraction", 3, []), ("is_integer", 0, [.non, .non]), ("is_integer", 0, [.non]), ("is_less", 10, []), ("is_pair", 11, []), ("minus", 7, []), ("over", 9, []), ("plus", 6, []), ("simplified", 2, []), ("times", 8, [])]
  mks := [("Row", 0, 13, [])]
  mts := [(0, "at", 19), (0, "cut", 18), (0, "moved", 17), (0, "pairs", 14), (0, "total", 21), (0, "up_to", 20)]
  ops := [(0, .Add, 15), (0, .Mult, 16)]
  eqs := [(0, 24)]
  nes := [(0, 24)]
  ins := [(0, 23)]
  lens := [(0, 22)]
  fls := [(0, "shares")]
  cls := [("Row", 0)]
  gls := []
  blts := ["abs", "all", "bool", "int", "isinstance", "len", "list", "range", "sorted", "tuple"]
  ncl := 1
  isa := [[(.cls 0)], [.bool], [.int], [.lst, .tup], [.tup]]
end K86
namespace K86
open PySem PD L2
theorem ck_is_integer : ckB tab N_is_integer b_is_integer (C8.fnScope s_is_integer) (C8.fnBody s_is_integer) = true := by decide +kernel
theorem ck_divisor_of : ckB tab N_divisor_of b_divisor_of (C8.fnScope s_divisor_of) (C8.fnBody s_divisor_of) = true := by decide +kernel
theorem ck_simplified : ckB tab N_simplified b_simplified (C8.fnScope s_simplified) (C8.fnBody s_simplified) = true := by decide +kernel
theorem ck_is_fraction : ckB tab N_is_fraction b_is_fraction (C8.fnScope s_is_fraction) (C8.fnBody s_is_fraction) = true := by decide +kernel
theorem ck_check_fractions : ckB tab N_check_fractions b_check_fractions (C8.fnScope s_check_fractions) (C8.fnBody s_check_fractions) = true := by decide +kernel
theorem ck_fraction : ckB tab N_fraction b_fraction (C8.fnScope s_fraction) (C8.fnBody s_fraction) = true := by decide +kernel
theorem ck_plus : ckB tab N_plus b_plus (C8.fnScope s_plus) (C8.fnBody s_plus) = true := by decide +kernel
theorem ck_minus : ckB tab N_minus b_minus (C8.fnScope s_minus) (C8.fnBody s_minus) = true := by decide +kernel
theorem ck_times : ckB tab N_times b_times (C8.fnScope s_times) (C8.fnBody s_times) = true := by decide +kernel
theorem ck_over : ckB tab N_over b_over (C8.fnScope s_over) (C8.fnBody s_over) = true := by decide +kernel
theorem ck_is_less : ckB tab N_is_less b_is_less (C8.fnScope s_is_less) (C8.fnBody s_is_less) = true := by decide +kernel
theorem ck_is_pair : ckB tab N_is_pair b_is_pair (C8.fnScope s_is_pair) (C8.fnBody s_is_pair) = true := by decide +kernel
theorem ck_check_tick : ckB tab N_check_tick b_check_tick (C8.fnScope s_check_tick) (C8.fnBody s_check_tick) = true := by decide +kernel
theorem ck_Row___init : ckB tab N_Row___init b_Row___init (C8.fnScope s_Row___init) (C8.fnBody s_Row___init) = true := by decide +kernel
theorem ck_Row_pairs : ckB tab N_Row_pairs b_Row_pairs (C8.fnScope s_Row_pairs) (C8.fnBody s_Row_pairs) = true := by decide +kernel
theorem ck_Row___add : ckB tab N_Row___add b_Row___add (C8.fnScope s_Row___add) (C8.fnBody s_Row___add) = true := by decide +kernel
theorem ck_Row___mul : ckB tab N_Row___mul b_Row___mul (C8.fnScope s_Row___mul) (C8.fnBody s_Row___mul) = true := by decide +kernel
theorem ck_Row_moved : ckB tab N_Row_moved b_Row_moved (C8.fnScope s_Row_moved) (C8.fnBody s_Row_moved) = true := by decide +kernel
theorem ck_Row_cut : ckB tab N_Row_cut b_Row_cut (C8.fnScope s_Row_cut) (C8.fnBody s_Row_cut) = true := by decide +kernel
theorem ck_Row_at : ckB tab N_Row_at b_Row_at (C8.fnScope s_Row_at) (C8.fnBody s_Row_at) = true := by decide +kernel
theorem ck_Row_up_to : ckB tab N_Row_up_to b_Row_up_to (C8.fnScope s_Row_up_to) (C8.fnBody s_Row_up_to) = true := by decide +kernel
theorem ck_Row_total : ckB tab N_Row_total b_Row_total (C8.fnScope s_Row_total) (C8.fnBody s_Row_total) = true := by decide +kernel
theorem ck_Row___len : ckB tab N_Row___len b_Row___len (C8.fnScope s_Row___len) (C8.fnBody s_Row___len) = true := by decide +kernel
theorem ck_Row___contains : ckB tab N_Row___contains b_Row___contains (C8.fnScope s_Row___contains) (C8.fnBody s_Row___contains) = true := by decide +kernel
theorem ck_Row___eq : ckB tab N_Row___eq b_Row___eq (C8.fnScope s_Row___eq) (C8.fnBody s_Row___eq) = true := by decide +kernel
theorem ck_law_bag : ckB tab N_law_bag b_law_bag (C8.fnScope s_law_bag) (C8.fnBody s_law_bag) = true := by decide +kernel
theorem ck_law_draw : ckB tab N_law_draw b_law_draw (C8.fnScope s_law_draw) (C8.fnBody s_law_draw) = true := by decide +kernel
theorem ck_law_low : ckB tab N_law_low b_law_low (C8.fnScope s_law_low) (C8.fnBody s_law_low) = true := by decide +kernel
theorem ck_law_pairs : ckB tab N_law_pairs b_law_pairs (C8.fnScope s_law_pairs) (C8.fnBody s_law_pairs) = true := by decide +kernel
theorem ck_law_added : ckB tab N_law_added b_law_added (C8.fnScope s_law_added) (C8.fnBody s_law_added) = true := by decide +kernel
theorem ck_law_times : ckB tab N_law_times b_law_times (C8.fnScope s_law_times) (C8.fnBody s_law_times) = true := by decide +kernel
theorem ck_law_plain : ckB tab N_law_plain b_law_plain (C8.fnScope s_law_plain) (C8.fnBody s_law_plain) = true := by decide +kernel
theorem ck_law_product : ckB tab N_law_product b_law_product (C8.fnScope s_law_product) (C8.fnBody s_law_product) = true := by decide +kernel
theorem ck_law_sum : ckB tab N_law_sum b_law_sum (C8.fnScope s_law_sum) (C8.fnBody s_law_sum) = true := by decide +kernel
theorem ck_law_one_right : ckB tab N_law_one_right b_law_one_right (C8.fnScope s_law_one_right) (C8.fnBody s_law_one_right) = true := by decide +kernel
theorem ck_law_fractions_right : ckB tab N_law_fractions_right b_law_fractions_right (C8.fnScope s_law_fractions_right) (C8.fnBody s_law_fractions_right) = true := by decide +kernel
theorem ck_law_right : ckB tab N_law_right b_law_right (C8.fnScope s_law_right) (C8.fnBody s_law_right) = true := by decide +kernel
theorem ck_law : ckB tab N_law b_law (C8.fnScope s_law) (C8.fnBody s_law) = true := by decide +kernel
end K86
namespace K86
open PySem PD L2
theorem mk_is_integer {K : PySem.W.Frag} {f T : Addr} {oc kV dc pm cd ct oT : Value} {od an dT : Option Addr} {sl sT : Array (Option Value)} {nT : Nat} (l : K.lookup f = some ⟨oc, od, .func (PySem.W.fnOf "is_integer" "is_integer" (C8.fnArgs s_is_integer) (C8.fnBody s_is_integer) (C8.fnScope s_is_integer) (.ref T) kV dc pm an cd ct), sl⟩) (c : PySem.W.codeIn K cd "is_integer" = true) (kp : PySem.W.keepIn K (.ref f) = true) (lT : K.lookup T = some ⟨oT, dT, .seq #[.none, .none] nT, sT⟩) :
    ∃ fd, C8.Fun K "is_integer" "is_integer" s_is_integer f fd ∧ (∃ ds, Vals (([.non, .non] : List V).drop 0) ds ∧ Binds K fd ["value", "least", "greatest"] ds) ∧ (∃ ds, Vals (([.non, .non] : List V).drop 1) ds ∧ Binds K fd ["value", "least", "greatest"] ds) ∧ (∃ ds, Vals (([.non, .non] : List V).drop 2) ds ∧ Binds K fd ["value", "least", "greatest"] ds) := by
  have F : FunD K "is_integer" "is_integer" (C8.fnArgs s_is_integer) (C8.fnBody s_is_integer) (C8.fnScope s_is_integer) [.non, .non] [] f (PySem.W.fnOf "is_integer" "is_integer" (C8.fnArgs s_is_integer) (C8.fnBody s_is_integer) (C8.fnScope s_is_integer) (.ref T) kV dc pm an cd ct) := ⟨⟨oc, od, .ref T, kV, dc, pm, an, cd, ct, sl, rfl, l, c, .inr ⟨by simp, T, _, [.none, .none], nT, rfl, lT, rfl, (.cons rfl (.cons rfl .nil))⟩, .inl rfl⟩, kp⟩
  exact ⟨_, ⟨⟨oc, od, .ref T, kV, dc, pm, an, cd, ct, sl, rfl, l, c⟩⟩, F.binds1 1 0 (by simp) rfl fun _ _ _ _ _ _ _ us its h1 h2 => match us, its, h1, h2 with | [_], [_, _], _, _ => ⟨_, rfl, rfl⟩, F.binds1 2 1 (by simp) rfl fun _ _ _ _ _ _ _ us its h1 h2 => match us, its, h1, h2 with | [_, _], [_, _], _, _ => ⟨_, rfl, rfl⟩, F.binds1 3 2 (by simp) rfl fun _ _ _ _ _ _ _ us its h1 h2 => match us, its, h1, h2 with | [_, _, _], [_, _], _, _ => ⟨_, rfl, rfl⟩⟩
theorem mk_divisor_of {K : PySem.W.Frag} {f : Addr} {oc kV dc pm cd ct : Value} {od an : Option Addr} {sl : Array (Option Value)} (l : K.lookup f = some ⟨oc, od, .func (PySem.W.fnOf "divisor_of" "divisor_of" (C8.fnArgs s_divisor_of) (C8.fnBody s_divisor_of) (C8.fnScope s_divisor_of) .none kV dc pm an cd ct), sl⟩) (c : PySem.W.codeIn K cd "divisor_of" = true) :
    ∃ fd, C8.Fun K "divisor_of" "divisor_of" s_divisor_of f fd ∧ Binds K fd ["one", "other"] [] := ⟨_, ⟨⟨oc, od, .none, kV, dc, pm, an, cd, ct, sl, rfl, l, c⟩⟩, .all fun us hl => match us, hl with | [_, _], _ => rfl⟩
theorem mk_simplified {K : PySem.W.Frag} {f : Addr} {oc kV dc pm cd ct : Value} {od an : Option Addr} {sl : Array (Option Value)} (l : K.lookup f = some ⟨oc, od, .func (PySem.W.fnOf "simplified" "simplified" (C8.fnArgs s_simplified) (C8.fnBody s_simplified) (C8.fnScope s_simplified) .none kV dc pm an cd ct), sl⟩) (c : PySem.W.codeIn K cd "simplified" = true) :
    ∃ fd, C8.Fun K "simplified" "simplified" s_simplified f fd ∧ Binds K fd ["top", "bottom"] [] := ⟨_, ⟨⟨oc, od, .none, kV, dc, pm, an, cd, ct, sl, rfl, l, c⟩⟩, .all fun us hl => match us, hl with | [_, _], _ => rfl⟩
theorem mk_is_fraction {K : PySem.W.Frag} {f : Addr} {oc kV dc pm cd ct : Value} {od an : Option Addr} {sl : Array (Option Value)} (l : K.lookup f = some ⟨oc, od, .func (PySem.W.fnOf "is_fraction" "is_fraction" (C8.fnArgs s_is_fraction) (C8.fnBody s_is_fraction) (C8.fnScope s_is_fraction) .none kV dc pm an cd ct), sl⟩) (c : PySem.W.codeIn K cd "is_fraction" = true) :
    ∃ fd, C8.Fun K "is_fraction" "is_fraction" s_is_fraction f fd ∧ Binds K fd ["value"] [] := ⟨_, ⟨⟨oc, od, .none, kV, dc, pm, an, cd, ct, sl, rfl, l, c⟩⟩, .all fun us hl => match us, hl with | [_], _ => rfl⟩
theorem mk_check_fractions {K : PySem.W.Frag} {f : Addr} {oc kV dc pm cd ct : Value} {od an : Option Addr} {sl : Array (Option Value)} (l : K.lookup f = some ⟨oc, od, .func (PySem.W.fnOf "check_fractions" "check_fractions" (C8.fnArgs s_check_fractions) (C8.fnBody s_check_fractions) (C8.fnScope s_check_fractions) .none kV dc pm an cd ct), sl⟩) (c : PySem.W.codeIn K cd "check_fractions" = true) :
    ∃ fd, C8.Fun K "check_fractions" "check_fractions" s_check_fractions f fd ∧ Binds K fd ["one", "other"] [] := ⟨_, ⟨⟨oc, od, .none, kV, dc, pm, an, cd, ct, sl, rfl, l, c⟩⟩, .all fun us hl => match us, hl with | [_, _], _ => rfl⟩
theorem mk_fraction {K : PySem.W.Frag} {f T : Addr} {oc kV dc pm cd ct oT : Value} {od an dT : Option Addr} {sl sT : Array (Option Value)} {nT : Nat} {t0 : Tok} (l : K.lookup f = some ⟨oc, od, .func (PySem.W.fnOf "fraction" "fraction" (C8.fnArgs s_fraction) (C8.fnBody s_fraction) (C8.fnScope s_fraction) (.ref T) kV dc pm an cd ct), sl⟩) (c : PySem.W.codeIn K cd "fraction" = true) (kp : PySem.W.keepIn K (.ref f) = true) (lT : K.lookup T = some ⟨oT, dT, .seq #[(.int 1 t0)] nT, sT⟩) :
    ∃ fd, C8.Fun K "fraction" "fraction" s_fraction f fd ∧ (∃ ds, Vals (([(.int 1)] : List V).drop 0) ds ∧ Binds K fd ["top", "bottom"] ds) ∧ (∃ ds, Vals (([(.int 1)] : List V).drop 1) ds ∧ Binds K fd ["top", "bottom"] ds) := by
  have F : FunD K "fraction" "fraction" (C8.fnArgs s_fraction) (C8.fnBody s_fraction) (C8.fnScope s_fraction) [(.int 1)] [] f (PySem.W.fnOf "fraction" "fraction" (C8.fnArgs s_fraction) (C8.fnBody s_fraction) (C8.fnScope s_fraction) (.ref T) kV dc pm an cd ct) := ⟨⟨oc, od, .ref T, kV, dc, pm, an, cd, ct, sl, rfl, l, c, .inr ⟨by simp, T, _, [(.int 1 t0)], nT, rfl, lT, rfl, (.cons ⟨_, rfl⟩ .nil)⟩, .inl rfl⟩, kp⟩
  exact ⟨_, ⟨⟨oc, od, .ref T, kV, dc, pm, an, cd, ct, sl, rfl, l, c⟩⟩, F.binds1 1 0 (by simp) rfl fun _ _ _ _ _ _ _ us its h1 h2 => match us, its, h1, h2 with | [_], [_], _, _ => ⟨_, rfl, rfl⟩, F.binds1 2 1 (by simp) rfl fun _ _ _ _ _ _ _ us its h1 h2 => match us, its, h1, h2 with | [_, _], [_], _, _ => ⟨_, rfl, rfl⟩⟩
theorem mk_plus {K : PySem.W.Frag} {f : Addr} {oc kV dc pm cd ct : Value} {od an : Option Addr} {sl : Array (Option Value)} (l : K.lookup f = some ⟨oc, od, .func (PySem.W.fnOf "plus" "plus" (C8.fnArgs s_plus) (C8.fnBody s_plus) (C8.fnScope s_plus) .none kV dc pm an cd ct), sl⟩) (c : PySem.W.codeIn K cd "plus" = true) :
    ∃ fd, C8.Fun K "plus" "plus" s_plus f fd ∧ Binds K fd ["one", "other"] [] := ⟨_, ⟨⟨oc, od, .none, kV, dc, pm, an, cd, ct, sl, rfl, l, c⟩⟩, .all fun us hl => match us, hl with | [_, _], _ => rfl⟩
theorem mk_minus {K : PySem.W.Frag} {f : Addr} {oc kV dc pm cd ct : Value} {od an : Option Addr} {sl : Array (Option Value)} (l : K.lookup f = some ⟨oc, od, .func (PySem.W.fnOf "minus" "minus" (C8.fnArgs s_minus) (C8.fnBody s_minus) (C8.fnScope s_minus) .none kV dc pm an cd ct), sl⟩) (c : PySem.W.codeIn K cd "minus" = true) :
    ∃ fd, C8.Fun K "minus" "minus" s_minus f fd ∧ Binds K fd ["one", "other"] [] := ⟨_, ⟨⟨oc, od, .none, kV, dc, pm, an, cd, ct, sl, rfl, l, c⟩⟩, .all fun us hl => match us, hl with | [_, _], _ => rfl⟩
theorem mk_times {K : PySem.W.Frag} {f : Addr} {oc kV dc pm cd ct : Value} {od an : Option Addr} {sl : Array (Option Value)} (l : K.lookup f = some ⟨oc, od, .func (PySem.W.fnOf "times" "times" (C8.fnArgs s_times) (C8.fnBody s_times) (C8.fnScope s_times) .none kV dc pm an cd ct), sl⟩) (c : PySem.W.codeIn K cd "times" = true) :
    ∃ fd, C8.Fun K "times" "times" s_times f fd ∧ Binds K fd ["one", "other"] [] := ⟨_, ⟨⟨oc, od, .none, kV, dc, pm, an, cd, ct, sl, rfl, l, c⟩⟩, .all fun us hl => match us, hl with | [_, _], _ => rfl⟩
theorem mk_over {K : PySem.W.Frag} {f : Addr} {oc kV dc pm cd ct : Value} {od an : Option Addr} {sl : Array (Option Value)} (l : K.lookup f = some ⟨oc, od, .func (PySem.W.fnOf "over" "over" (C8.fnArgs s_over) (C8.fnBody s_over) (C8.fnScope s_over) .none kV dc pm an cd ct), sl⟩) (c : PySem.W.codeIn K cd "over" = true) :
    ∃ fd, C8.Fun K "over" "over" s_over f fd ∧ Binds K fd ["one", "other"] [] := ⟨_, ⟨⟨oc, od, .none, kV, dc, pm, an, cd, ct, sl, rfl, l, c⟩⟩, .all fun us hl => match us, hl with | [_, _], _ => rfl⟩
theorem mk_is_less {K : PySem.W.Frag} {f : Addr} {oc kV dc pm cd ct : Value} {od an : Option Addr} {sl : Array (Option Value)} (l : K.lookup f = some ⟨oc, od, .func (PySem.W.fnOf "is_less" "is_less" (C8.fnArgs s_is_less) (C8.fnBody s_is_less) (C8.fnScope s_is_less) .none kV dc pm an cd ct), sl⟩) (c : PySem.W.codeIn K cd "is_less" = true) :
    ∃ fd, C8.Fun K "is_less" "is_less" s_is_less f fd ∧ Binds K fd ["one", "other"] [] := ⟨_, ⟨⟨oc, od, .none, kV, dc, pm, an, cd, ct, sl, rfl, l, c⟩⟩, .all fun us hl => match us, hl with | [_, _], _ => rfl⟩
theorem mk_is_pair {K : PySem.W.Frag} {f : Addr} {oc kV dc pm cd ct : Value} {od an : Option Addr} {sl : Array (Option Value)} (l : K.lookup f = some ⟨oc, od, .func (PySem.W.fnOf "is_pair" "is_pair" (C8.fnArgs s_is_pair) (C8.fnBody s_is_pair) (C8.fnScope s_is_pair) .none kV dc pm an cd ct), sl⟩) (c : PySem.W.codeIn K cd "is_pair" = true) :
    ∃ fd, C8.Fun K "is_pair" "is_pair" s_is_pair f fd ∧ Binds K fd ["value"] [] := ⟨_, ⟨⟨oc, od, .none, kV, dc, pm, an, cd, ct, sl, rfl, l, c⟩⟩, .all fun us hl => match us, hl with | [_], _ => rfl⟩
theorem mk_check_tick {K : PySem.W.Frag} {f : Addr} {oc kV dc pm cd ct : Value} {od an : Option Addr} {sl : Array (Option Value)} (l : K.lookup f = some ⟨oc, od, .func (PySem.W.fnOf "check_tick" "check_tick" (C8.fnArgs s_check_tick) (C8.fnBody s_check_tick) (C8.fnScope s_check_tick) .none kV dc pm an cd ct), sl⟩) (c : PySem.W.codeIn K cd "check_tick" = true) :
    ∃ fd, C8.Fun K "check_tick" "check_tick" s_check_tick f fd ∧ Binds K fd ["value"] [] := ⟨_, ⟨⟨oc, od, .none, kV, dc, pm, an, cd, ct, sl, rfl, l, c⟩⟩, .all fun us hl => match us, hl with | [_], _ => rfl⟩
theorem mk_Row___init {K : PySem.W.Frag} {f T : Addr} {oc kV dc pm cd ct oT : Value} {od an dT : Option Addr} {sl sT : Array (Option Value)} {nT : Nat} {e0 : Addr} (l : K.lookup f = some ⟨oc, od, .func (PySem.W.fnOf "__init__" "Row.__init__" (C8.fnArgs s_Row___init) (C8.fnBody s_Row___init) (C8.fnScope s_Row___init) (.ref T) kV dc pm an cd ct), sl⟩) (c : PySem.W.codeIn K cd "Row.__init__" = true) (kp : PySem.W.keepIn K (.ref f) = true) (lT : K.lookup T = some ⟨oT, dT, .seq #[(.ref e0)] nT, sT⟩) :
    ∃ fd, C8.Fun K "__init__" "Row.__init__" s_Row___init f fd ∧ (∃ ds, Vals (([(.ref e0)] : List V).drop 0) ds ∧ Binds K fd ["self", "pairs"] ds) ∧ (∃ ds, Vals (([(.ref e0)] : List V).drop 1) ds ∧ Binds K fd ["self", "pairs"] ds) := by
  have F : FunD K "__init__" "Row.__init__" (C8.fnArgs s_Row___init) (C8.fnBody s_Row___init) (C8.fnScope s_Row___init) [(.ref e0)] [] f (PySem.W.fnOf "__init__" "Row.__init__" (C8.fnArgs s_Row___init) (C8.fnBody s_Row___init) (C8.fnScope s_Row___init) (.ref T) kV dc pm an cd ct) := ⟨⟨oc, od, .ref T, kV, dc, pm, an, cd, ct, sl, rfl, l, c, .inr ⟨by simp, T, _, [(.ref e0)], nT, rfl, lT, rfl, (.cons rfl .nil)⟩, .inl rfl⟩, kp⟩
  exact ⟨_, ⟨⟨oc, od, .ref T, kV, dc, pm, an, cd, ct, sl, rfl, l, c⟩⟩, F.binds1 1 0 (by simp) rfl fun _ _ _ _ _ _ _ us its h1 h2 => match us, its, h1, h2 with | [_], [_], _, _ => ⟨_, rfl, rfl⟩, F.binds1 2 1 (by simp) rfl fun _ _ _ _ _ _ _ us its h1 h2 => match us, its, h1, h2 with | [_, _], [_], _, _ => ⟨_, rfl, rfl⟩⟩
theorem mk_Row_pairs {K : PySem.W.Frag} {f : Addr} {oc kV dc pm cd ct : Value} {od an : Option Addr} {sl : Array (Option Value)} (l : K.lookup f = some ⟨oc, od, .func (PySem.W.fnOf "pairs" "Row.pairs" (C8.fnArgs s_Row_pairs) (C8.fnBody s_Row_pairs) (C8.fnScope s_Row_pairs) .none kV dc pm an cd ct), sl⟩) (c : PySem.W.codeIn K cd "Row.pairs" = true) :
    ∃ fd, C8.Fun K "pairs" "Row.pairs" s_Row_pairs f fd ∧ Binds K fd ["self"] [] := ⟨_, ⟨⟨oc, od, .none, kV, dc, pm, an, cd, ct, sl, rfl, l, c⟩⟩, .all fun us hl => match us, hl with | [_], _ => rfl⟩
theorem mk_Row___add {K : PySem.W.Frag} {f : Addr} {oc kV dc pm cd ct : Value} {od an : Option Addr} {sl : Array (Option Value)} (l : K.lookup f = some ⟨oc, od, .func (PySem.W.fnOf "__add__" "Row.__add__" (C8.fnArgs s_Row___add) (C8.fnBody s_Row___add) (C8.fnScope s_Row___add) .none kV dc pm an cd ct), sl⟩) (c : PySem.W.codeIn K cd "Row.__add__" = true) :
    ∃ fd, C8.Fun K "__add__" "Row.__add__" s_Row___add f fd ∧ Binds K fd ["self", "other"] [] := ⟨_, ⟨⟨oc, od, .none, kV, dc, pm, an, cd, ct, sl, rfl, l, c⟩⟩, .all fun us hl => match us, hl with | [_, _], _ => rfl⟩
theorem mk_Row___mul {K : PySem.W.Frag} {f : Addr} {oc kV dc pm cd ct : Value} {od an : Option Addr} {sl : Array (Option Value)} (l : K.lookup f = some ⟨oc, od, .func (PySem.W.fnOf "__mul__" "Row.__mul__" (C8.fnArgs s_Row___mul) (C8.fnBody s_Row___mul) (C8.fnScope s_Row___mul) .none kV dc pm an cd ct), sl⟩) (c : PySem.W.codeIn K cd "Row.__mul__" = true) :
    ∃ fd, C8.Fun K "__mul__" "Row.__mul__" s_Row___mul f fd ∧ Binds K fd ["self", "other"] [] := ⟨_, ⟨⟨oc, od, .none, kV, dc, pm, an, cd, ct, sl, rfl, l, c⟩⟩, .all fun us hl => match us, hl with | [_, _], _ => rfl⟩
theorem mk_Row_moved {K : PySem.W.Frag} {f : Addr} {oc kV dc pm cd ct : Value} {od an : Option Addr} {sl : Array (Option Value)} (l : K.lookup f = some ⟨oc, od, .func (PySem.W.fnOf "moved" "Row.moved" (C8.fnArgs s_Row_moved) (C8.fnBody s_Row_moved) (C8.fnScope s_Row_moved) .none kV dc pm an cd ct), sl⟩) (c : PySem.W.codeIn K cd "Row.moved" = true) :
    ∃ fd, C8.Fun K "moved" "Row.moved" s_Row_moved f fd ∧ Binds K fd ["self", "ticks"] [] := ⟨_, ⟨⟨oc, od, .none, kV, dc, pm, an, cd, ct, sl, rfl, l, c⟩⟩, .all fun us hl => match us, hl with | [_, _], _ => rfl⟩
theorem mk_Row_cut {K : PySem.W.Frag} {f : Addr} {oc kV dc pm cd ct : Value} {od an : Option Addr} {sl : Array (Option Value)} (l : K.lookup f = some ⟨oc, od, .func (PySem.W.fnOf "cut" "Row.cut" (C8.fnArgs s_Row_cut) (C8.fnBody s_Row_cut) (C8.fnScope s_Row_cut) .none kV dc pm an cd ct), sl⟩) (c : PySem.W.codeIn K cd "Row.cut" = true) :
    ∃ fd, C8.Fun K "cut" "Row.cut" s_Row_cut f fd ∧ Binds K fd ["self", "tick"] [] := ⟨_, ⟨⟨oc, od, .none, kV, dc, pm, an, cd, ct, sl, rfl, l, c⟩⟩, .all fun us hl => match us, hl with | [_, _], _ => rfl⟩
theorem mk_Row_at {K : PySem.W.Frag} {f : Addr} {oc kV dc pm cd ct : Value} {od an : Option Addr} {sl : Array (Option Value)} (l : K.lookup f = some ⟨oc, od, .func (PySem.W.fnOf "at" "Row.at" (C8.fnArgs s_Row_at) (C8.fnBody s_Row_at) (C8.fnScope s_Row_at) .none kV dc pm an cd ct), sl⟩) (c : PySem.W.codeIn K cd "Row.at" = true) :
    ∃ fd, C8.Fun K "at" "Row.at" s_Row_at f fd ∧ Binds K fd ["self", "tick"] [] := ⟨_, ⟨⟨oc, od, .none, kV, dc, pm, an, cd, ct, sl, rfl, l, c⟩⟩, .all fun us hl => match us, hl with | [_, _], _ => rfl⟩
theorem mk_Row_up_to {K : PySem.W.Frag} {f : Addr} {oc kV dc pm cd ct : Value} {od an : Option Addr} {sl : Array (Option Value)} (l : K.lookup f = some ⟨oc, od, .func (PySem.W.fnOf "up_to" "Row.up_to" (C8.fnArgs s_Row_up_to) (C8.fnBody s_Row_up_to) (C8.fnScope s_Row_up_to) .none kV dc pm an cd ct), sl⟩) (c : PySem.W.codeIn K cd "Row.up_to" = true) :
    ∃ fd, C8.Fun K "up_to" "Row.up_to" s_Row_up_to f fd ∧ Binds K fd ["self", "tick"] [] := ⟨_, ⟨⟨oc, od, .none, kV, dc, pm, an, cd, ct, sl, rfl, l, c⟩⟩, .all fun us hl => match us, hl with | [_, _], _ => rfl⟩
theorem mk_Row_total {K : PySem.W.Frag} {f : Addr} {oc kV dc pm cd ct : Value} {od an : Option Addr} {sl : Array (Option Value)} (l : K.lookup f = some ⟨oc, od, .func (PySem.W.fnOf "total" "Row.total" (C8.fnArgs s_Row_total) (C8.fnBody s_Row_total) (C8.fnScope s_Row_total) .none kV dc pm an cd ct), sl⟩) (c : PySem.W.codeIn K cd "Row.total" = true) :
    ∃ fd, C8.Fun K "total" "Row.total" s_Row_total f fd ∧ Binds K fd ["self"] [] := ⟨_, ⟨⟨oc, od, .none, kV, dc, pm, an, cd, ct, sl, rfl, l, c⟩⟩, .all fun us hl => match us, hl with | [_], _ => rfl⟩
theorem mk_Row___len {K : PySem.W.Frag} {f : Addr} {oc kV dc pm cd ct : Value} {od an : Option Addr} {sl : Array (Option Value)} (l : K.lookup f = some ⟨oc, od, .func (PySem.W.fnOf "__len__" "Row.__len__" (C8.fnArgs s_Row___len) (C8.fnBody s_Row___len) (C8.fnScope s_Row___len) .none kV dc pm an cd ct), sl⟩) (c : PySem.W.codeIn K cd "Row.__len__" = true) :
    ∃ fd, C8.Fun K "__len__" "Row.__len__" s_Row___len f fd ∧ Binds K fd ["self"] [] := ⟨_, ⟨⟨oc, od, .none, kV, dc, pm, an, cd, ct, sl, rfl, l, c⟩⟩, .all fun us hl => match us, hl with | [_], _ => rfl⟩
theorem mk_Row___contains {K : PySem.W.Frag} {f : Addr} {oc kV dc pm cd ct : Value} {od an : Option Addr} {sl : Array (Option Value)} (l : K.lookup f = some ⟨oc, od, .func (PySem.W.fnOf "__contains__" "Row.__contains__" (C8.fnArgs s_Row___contains) (C8.fnBody s_Row___contains) (C8.fnScope s_Row___contains) .none kV dc pm an cd ct), sl⟩) (c : PySem.W.codeIn K cd "Row.__contains__" = true) :
    ∃ fd, C8.Fun K "__contains__" "Row.__contains__" s_Row___contains f fd ∧ Binds K fd ["self", "tick"] [] := ⟨_, ⟨⟨oc, od, .none, kV, dc, pm, an, cd, ct, sl, rfl, l, c⟩⟩, .all fun us hl => match us, hl with | [_, _], _ => rfl⟩
theorem mk_Row___eq {K : PySem.W.Frag} {f : Addr} {oc kV dc pm cd ct : Value} {od an : Option Addr} {sl : Array (Option Value)} (l : K.lookup f = some ⟨oc, od, .func (PySem.W.fnOf "__eq__" "Row.__eq__" (C8.fnArgs s_Row___eq) (C8.fnBody s_Row___eq) (C8.fnScope s_Row___eq) .none kV dc pm an cd ct), sl⟩) (c : PySem.W.codeIn K cd "Row.__eq__" = true) :
    ∃ fd, C8.Fun K "__eq__" "Row.__eq__" s_Row___eq f fd ∧ Binds K fd ["self", "other"] [] := ⟨_, ⟨⟨oc, od, .none, kV, dc, pm, an, cd, ct, sl, rfl, l, c⟩⟩, .all fun us hl => match us, hl with | [_, _], _ => rfl⟩
theorem mk_law_bag {K : PySem.W.Frag} {f : Addr} {oc kV dc pm cd ct : Value} {od an : Option Addr} {sl : Array (Option Value)} (l : K.lookup f = some ⟨oc, od, .func (PySem.W.fnOf "_law_bag" "_law_bag" (C8.fnArgs s_law_bag) (C8.fnBody s_law_bag) (C8.fnScope s_law_bag) .none kV dc pm an cd ct), sl⟩) (c : PySem.W.codeIn K cd "_law_bag" = true) :
    ∃ fd, C8.Fun K "_law_bag" "_law_bag" s_law_bag f fd ∧ Binds K fd ["cell", "k"] [] := ⟨_, ⟨⟨oc, od, .none, kV, dc, pm, an, cd, ct, sl, rfl, l, c⟩⟩, .all fun us hl => match us, hl with | [_, _], _ => rfl⟩
theorem mk_law_draw {K : PySem.W.Frag} {f : Addr} {oc kV dc pm cd ct : Value} {od an : Option Addr} {sl : Array (Option Value)} (l : K.lookup f = some ⟨oc, od, .func (PySem.W.fnOf "_law_draw" "_law_draw" (C8.fnArgs s_law_draw) (C8.fnBody s_law_draw) (C8.fnScope s_law_draw) .none kV dc pm an cd ct), sl⟩) (c : PySem.W.codeIn K cd "_law_draw" = true) :
    ∃ fd, C8.Fun K "_law_draw" "_law_draw" s_law_draw f fd ∧ Binds K fd ["bag", "many"] [] := ⟨_, ⟨⟨oc, od, .none, kV, dc, pm, an, cd, ct, sl, rfl, l, c⟩⟩, .all fun us hl => match us, hl with | [_, _], _ => rfl⟩
theorem mk_law_low {K : PySem.W.Frag} {f : Addr} {oc kV dc pm cd ct : Value} {od an : Option Addr} {sl : Array (Option Value)} (l : K.lookup f = some ⟨oc, od, .func (PySem.W.fnOf "_law_low" "_law_low" (C8.fnArgs s_law_low) (C8.fnBody s_law_low) (C8.fnScope s_law_low) .none kV dc pm an cd ct), sl⟩) (c : PySem.W.codeIn K cd "_law_low" = true) :
    ∃ fd, C8.Fun K "_law_low" "_law_low" s_law_low f fd ∧ Binds K fd ["top", "bottom"] [] := ⟨_, ⟨⟨oc, od, .none, kV, dc, pm, an, cd, ct, sl, rfl, l, c⟩⟩, .all fun us hl => match us, hl with | [_, _], _ => rfl⟩
theorem mk_law_pairs {K : PySem.W.Frag} {f : Addr} {oc kV dc pm cd ct : Value} {od an : Option Addr} {sl : Array (Option Value)} (l : K.lookup f = some ⟨oc, od, .func (PySem.W.fnOf "_law_pairs" "_law_pairs" (C8.fnArgs s_law_pairs) (C8.fnBody s_law_pairs) (C8.fnScope s_law_pairs) .none kV dc pm an cd ct), sl⟩) (c : PySem.W.codeIn K cd "_law_pairs" = true) :
    ∃ fd, C8.Fun K "_law_pairs" "_law_pairs" s_law_pairs f fd ∧ Binds K fd ["bag"] [] := ⟨_, ⟨⟨oc, od, .none, kV, dc, pm, an, cd, ct, sl, rfl, l, c⟩⟩, .all fun us hl => match us, hl with | [_], _ => rfl⟩
theorem mk_law_added {K : PySem.W.Frag} {f : Addr} {oc kV dc pm cd ct : Value} {od an : Option Addr} {sl : Array (Option Value)} (l : K.lookup f = some ⟨oc, od, .func (PySem.W.fnOf "_law_added" "_law_added" (C8.fnArgs s_law_added) (C8.fnBody s_law_added) (C8.fnScope s_law_added) .none kV dc pm an cd ct), sl⟩) (c : PySem.W.codeIn K cd "_law_added" = true) :
    ∃ fd, C8.Fun K "_law_added" "_law_added" s_law_added f fd ∧ Binds K fd ["one", "two"] [] := ⟨_, ⟨⟨oc, od, .none, kV, dc, pm, an, cd, ct, sl, rfl, l, c⟩⟩, .all fun us hl => match us, hl with | [_, _], _ => rfl⟩
theorem mk_law_times {K : PySem.W.Frag} {f : Addr} {oc kV dc pm cd ct : Value} {od an : Option Addr} {sl : Array (Option Value)} (l : K.lookup f = some ⟨oc, od, .func (PySem.W.fnOf "_law_times" "_law_times" (C8.fnArgs s_law_times) (C8.fnBody s_law_times) (C8.fnScope s_law_times) .none kV dc pm an cd ct), sl⟩) (c : PySem.W.codeIn K cd "_law_times" = true) :
    ∃ fd, C8.Fun K "_law_times" "_law_times" s_law_times f fd ∧ Binds K fd ["one", "two"] [] := ⟨_, ⟨⟨oc, od, .none, kV, dc, pm, an, cd, ct, sl, rfl, l, c⟩⟩, .all fun us hl => match us, hl with | [_, _], _ => rfl⟩
theorem mk_law_plain {K : PySem.W.Frag} {f : Addr} {oc kV dc pm cd ct : Value} {od an : Option Addr} {sl : Array (Option Value)} (l : K.lookup f = some ⟨oc, od, .func (PySem.W.fnOf "_law_plain" "_law_plain" (C8.fnArgs s_law_plain) (C8.fnBody s_law_plain) (C8.fnScope s_law_plain) .none kV dc pm an cd ct), sl⟩) (c : PySem.W.codeIn K cd "_law_plain" = true) :
    ∃ fd, C8.Fun K "_law_plain" "_law_plain" s_law_plain f fd ∧ Binds K fd ["pairs"] [] := ⟨_, ⟨⟨oc, od, .none, kV, dc, pm, an, cd, ct, sl, rfl, l, c⟩⟩, .all fun us hl => match us, hl with | [_], _ => rfl⟩
theorem mk_law_product {K : PySem.W.Frag} {f : Addr} {oc kV dc pm cd ct : Value} {od an : Option Addr} {sl : Array (Option Value)} (l : K.lookup f = some ⟨oc, od, .func (PySem.W.fnOf "_law_product" "_law_product" (C8.fnArgs s_law_product) (C8.fnBody s_law_product) (C8.fnScope s_law_product) .none kV dc pm an cd ct), sl⟩) (c : PySem.W.codeIn K cd "_law_product" = true) :
    ∃ fd, C8.Fun K "_law_product" "_law_product" s_law_product f fd ∧ Binds K fd ["one", "two"] [] := ⟨_, ⟨⟨oc, od, .none, kV, dc, pm, an, cd, ct, sl, rfl, l, c⟩⟩, .all fun us hl => match us, hl with | [_, _], _ => rfl⟩
theorem mk_law_sum {K : PySem.W.Frag} {f : Addr} {oc kV dc pm cd ct : Value} {od an : Option Addr} {sl : Array (Option Value)} (l : K.lookup f = some ⟨oc, od, .func (PySem.W.fnOf "_law_sum" "_law_sum" (C8.fnArgs s_law_sum) (C8.fnBody s_law_sum) (C8.fnScope s_law_sum) .none kV dc pm an cd ct), sl⟩) (c : PySem.W.codeIn K cd "_law_sum" = true) :
    ∃ fd, C8.Fun K "_law_sum" "_law_sum" s_law_sum f fd ∧ Binds K fd ["pairs"] [] := ⟨_, ⟨⟨oc, od, .none, kV, dc, pm, an, cd, ct, sl, rfl, l, c⟩⟩, .all fun us hl => match us, hl with | [_], _ => rfl⟩
theorem mk_law_one_right {K : PySem.W.Frag} {f : Addr} {oc kV dc pm cd ct : Value} {od an : Option Addr} {sl : Array (Option Value)} (l : K.lookup f = some ⟨oc, od, .func (PySem.W.fnOf "_law_one_right" "_law_one_right" (C8.fnArgs s_law_one_right) (C8.fnBody s_law_one_right) (C8.fnScope s_law_one_right) .none kV dc pm an cd ct), sl⟩) (c : PySem.W.codeIn K cd "_law_one_right" = true) :
    ∃ fd, C8.Fun K "_law_one_right" "_law_one_right" s_law_one_right f fd ∧ Binds K fd ["pairs", "tick"] [] := ⟨_, ⟨⟨oc, od, .none, kV, dc, pm, an, cd, ct, sl, rfl, l, c⟩⟩, .all fun us hl => match us, hl with | [_, _], _ => rfl⟩
theorem mk_law_fractions_right {K : PySem.W.Frag} {f : Addr} {oc kV dc pm cd ct : Value} {od an : Option Addr} {sl : Array (Option Value)} (l : K.lookup f = some ⟨oc, od, .func (PySem.W.fnOf "_law_fractions_right" "_law_fractions_right" (C8.fnArgs s_law_fractions_right) (C8.fnBody s_law_fractions_right) (C8.fnScope s_law_fractions_right) .none kV dc pm an cd ct), sl⟩) (c : PySem.W.codeIn K cd "_law_fractions_right" = true) :
    ∃ fd, C8.Fun K "_law_fractions_right" "_law_fractions_right" s_law_fractions_right f fd ∧ Binds K fd ["one", "two"] [] := ⟨_, ⟨⟨oc, od, .none, kV, dc, pm, an, cd, ct, sl, rfl, l, c⟩⟩, .all fun us hl => match us, hl with | [_, _], _ => rfl⟩
theorem mk_law_right {K : PySem.W.Frag} {f : Addr} {oc kV dc pm cd ct : Value} {od an : Option Addr} {sl : Array (Option Value)} (l : K.lookup f = some ⟨oc, od, .func (PySem.W.fnOf "_law_right" "_law_right" (C8.fnArgs s_law_right) (C8.fnBody s_law_right) (C8.fnScope s_law_right) .none kV dc pm an cd ct), sl⟩) (c : PySem.W.codeIn K cd "_law_right" = true) :
    ∃ fd, C8.Fun K "_law_right" "_law_right" s_law_right f fd ∧ Binds K fd ["bag"] [] := ⟨_, ⟨⟨oc, od, .none, kV, dc, pm, an, cd, ct, sl, rfl, l, c⟩⟩, .all fun us hl => match us, hl with | [_], _ => rfl⟩
theorem mk_law {K : PySem.W.Frag} {f : Addr} {oc kV dc pm cd ct : Value} {od an : Option Addr} {sl : Array (Option Value)} (l : K.lookup f = some ⟨oc, od, .func (PySem.W.fnOf "law" "law" (C8.fnArgs s_law) (C8.fnBody s_law) (C8.fnScope s_law) .none kV dc pm an cd ct), sl⟩) (c : PySem.W.codeIn K cd "law" = true) :
    ∃ fd, C8.Fun K "law" "law" s_law f fd ∧ Binds K fd ["script"] [] ∧ ∀ (s : Shared) (v : Value), BindsTo s fd ⟨[v], []⟩ [("script", v)] := ⟨_, ⟨⟨oc, od, .none, kV, dc, pm, an, cd, ct, sl, rfl, l, c⟩⟩, .all fun us hl => match us, hl with | [_], _ => rfl, fun s v => .of_eq rfl⟩
end K86
namespace K86
open PySem PD L2
/-- what the top has written -/
structure Txt (K : PySem.W.Frag) (mg : Str → Option Value) (cl : Nat → Addr) (f : Nat → Addr) (fd : Nat → FuncData) : Prop where
  q0 : mg "Row" = some (.ref (cl 0))
  cls0 : InsCls K (cl 0)
  mk0 : PySem.W.makesIn K (cl 0) = true
  kc0 : PySem.W.keepIn K (.ref (cl 0)) = true
  sf0 : PySem.W.selfFirst K (cl 0) = true
  ne0 : PySem.W.findIn K (.ref (cl 0)) "__ne__" = some (some (.builtin "object.__ne__"))
  hm0 : PySem.W.mroIn K (cl 0) (.type "object") = some true
  na0_shares : NoAttr K (cl 0) "shares"
  m0 : mg "is_integer" = some (.ref (f 0))
  k0 : PySem.W.keepIn K (.ref (f 0)) = true
  d0 : C8.Fun K "is_integer" "is_integer" s_is_integer (f 0) (fd 0)
  b0 : (∃ ds, Vals (([.non, .non] : List V).drop 0) ds ∧ Binds K (fd 0) ["value", "least", "greatest"] ds) ∧ (∃ ds, Vals (([.non, .non] : List V).drop 1) ds ∧ Binds K (fd 0) ["value", "least", "greatest"] ds) ∧ (∃ ds, Vals (([.non, .non] : List V).drop 2) ds ∧ Binds K (fd 0) ["value", "least", "greatest"] ds)
  m1 : mg "divisor_of" = some (.ref (f 1))
  k1 : PySem.W.keepIn K (.ref (f 1)) = true
  d1 : C8.Fun K "divisor_of" "divisor_of" s_divisor_of (f 1) (fd 1)
  b1 : Binds K (fd 1) ["one", "other"] []
  m2 : mg "simplified" = some (.ref (f 2))
  k2 : PySem.W.keepIn K (.ref (f 2)) = true
  d2 : C8.Fun K "simplified" "simplified" s_simplified (f 2) (fd 2)
  b2 : Binds K (fd 2) ["top", "bottom"] []
  m3 : mg "is_fraction" = some (.ref (f 3))
  k3 : PySem.W.keepIn K (.ref (f 3)) = true
  d3 : C8.Fun K "is_fraction" "is_fraction" s_is_fraction (f 3) (fd 3)
  b3 : Binds K (fd 3) ["value"] []
  m4 : mg "check_fractions" = some (.ref (f 4))
  k4 : PySem.W.keepIn K (.ref (f 4)) = true
  d4 : C8.Fun K "check_fractions" "check_fractions" s_check_fractions (f 4) (fd 4)
  b4 : Binds K (fd 4) ["one", "other"] []
  m5 : mg "fraction" = some (.ref (f 5))
  k5 : PySem.W.keepIn K (.ref (f 5)) = true
  d5 : C8.Fun K "fraction" "fraction" s_fraction (f 5) (fd 5)
  b5 : (∃ ds, Vals (([(.int 1)] : List V).drop 0) ds ∧ Binds K (fd 5) ["top", "bottom"] ds) ∧ (∃ ds, Vals (([(.int 1)] : List V).drop 1) ds ∧ Binds K (fd 5) ["top", "bottom"] ds)
  m6 : mg "plus" = some (.ref (f 6))
  k6 : PySem.W.keepIn K (.ref (f 6)) = true
  d6 : C8.Fun K "plus" "plus" s_plus (f 6) (fd 6)
  b6 : Binds K (fd 6) ["one", "other"] []
  m7 : mg "minus" = some (.ref (f 7))
  k7 : PySem.W.keepIn K (.ref (f 7)) = true
  d7 : C8.Fun K "minus" "minus" s_minus (f 7) (fd 7)
  b7 : Binds K (fd 7) ["one", "other"] []
  m8 : mg "times" = some (.ref (f 8))
  k8 : PySem.W.keepIn K (.ref (f 8)) = true
  d8 : C8.Fun K "times" "times" s_times (f 8) (fd 8)
  b8 : Binds K (fd 8) ["one", "other"] []
  m9 : mg "over" = some (.ref (f 9))
  k9 : PySem.W.keepIn K (.ref (f 9)) = true
  d9 : C8.Fun K "over" "over" s_over (f 9) (fd 9)
  b9 : Binds K (fd 9) ["one", "other"] []
  m10 : mg "is_less" = some (.ref (f 10))
  k10 : PySem.W.keepIn K (.ref (f 10)) = true
  d10 : C8.Fun K "is_less" "is_less" s_is_less (f 10) (fd 10)
  b10 : Binds K (fd 10) ["one", "other"] []
  m11 : mg "is_pair" = some (.ref (f 11))
  k11 : PySem.W.keepIn K (.ref (f 11)) = true
  d11 : C8.Fun K "is_pair" "is_pair" s_is_pair (f 11) (fd 11)
  b11 : Binds K (fd 11) ["value"] []
  m12 : mg "check_tick" = some (.ref (f 12))
  k12 : PySem.W.keepIn K (.ref (f 12)) = true
  d12 : C8.Fun K "check_tick" "check_tick" s_check_tick (f 12) (fd 12)
  b12 : Binds K (fd 12) ["value"] []
  a13 : PySem.W.findIn K (.ref (cl 0)) "__init__" = some (some (.ref (f 13)))
  i13 : PySem.W.isFn K (.ref (f 13)) = true
  k13 : PySem.W.keepIn K (.ref (f 13)) = true
  d13 : C8.Fun K "__init__" "Row.__init__" s_Row___init (f 13) (fd 13)
  b13 : ∃ e : Addr, (∃ ds, Vals (([(.ref e)] : List V).drop 0) ds ∧ Binds K (fd 13) ["self", "pairs"] ds) ∧ (∃ ds, Vals (([(.ref e)] : List V).drop 1) ds ∧ Binds K (fd 13) ["self", "pairs"] ds)
  a14 : PySem.W.findIn K (.ref (cl 0)) "pairs" = some (some (.ref (f 14)))
  i14 : PySem.W.isFn K (.ref (f 14)) = true
  k14 : PySem.W.keepIn K (.ref (f 14)) = true
  d14 : C8.Fun K "pairs" "Row.pairs" s_Row_pairs (f 14) (fd 14)
  b14 : Binds K (fd 14) ["self"] []
  a15 : PySem.W.findIn K (.ref (cl 0)) "__add__" = some (some (.ref (f 15)))
  i15 : PySem.W.isFn K (.ref (f 15)) = true
  k15 : PySem.W.keepIn K (.ref (f 15)) = true
  d15 : C8.Fun K "__add__" "Row.__add__" s_Row___add (f 15) (fd 15)
  b15 : Binds K (fd 15) ["self", "other"] []
  a16 : PySem.W.findIn K (.ref (cl 0)) "__mul__" = some (some (.ref (f 16)))
  i16 : PySem.W.isFn K (.ref (f 16)) = true
  k16 : PySem.W.keepIn K (.ref (f 16)) = true
  d16 : C8.Fun K "__mul__" "Row.__mul__" s_Row___mul (f 16) (fd 16)
  b16 : Binds K (fd 16) ["self", "other"] []
  a17 : PySem.W.findIn K (.ref (cl 0)) "moved" = some (some (.ref (f 17)))
  i17 : PySem.W.isFn K (.ref (f 17)) = true
  k17 : PySem.W.keepIn K (.ref (f 17)) = true
  d17 : C8.Fun K "moved" "Row.moved" s_Row_moved (f 17) (fd 17)
  b17 : Binds K (fd 17) ["self", "ticks"] []
  a18 : PySem.W.findIn K (.ref (cl 0)) "cut" = some (some (.ref (f 18)))
  i18 : PySem.W.isFn K (.ref (f 18)) = true
  k18 : PySem.W.keepIn K (.ref (f 18)) = true
  d18 : C8.Fun K "cut" "Row.cut" s_Row_cut (f 18) (fd 18)
  b18 : Binds K (fd 18) ["self", "tick"] []
  a19 : PySem.W.findIn K (.ref (cl 0)) "at" = some (some (.ref (f 19)))
  i19 : PySem.W.isFn K (.ref (f 19)) = true
  k19 : PySem.W.keepIn K (.ref (f 19)) = true
  d19 : C8.Fun K "at" "Row.at" s_Row_at (f 19) (fd 19)
  b19 : Binds K (fd 19) ["self", "tick"] []
  a20 : PySem.W.findIn K (.ref (cl 0)) "up_to" = some (some (.ref (f 20)))
  i20 : PySem.W.isFn K (.ref (f 20)) = true
  k20 : PySem.W.keepIn K (.ref (f 20)) = true
  d20 : C8.Fun K "up_to" "Row.up_to" s_Row_up_to (f 20) (fd 20)
  b20 : Binds K (fd 20) ["self", "tick"] []
  a21 : PySem.W.findIn K (.ref (cl 0)) "total" = some (some (.ref (f 21)))
  i21 : PySem.W.isFn K (.ref (f 21)) = true
  k21 : PySem.W.keepIn K (.ref (f 21)) = true
  d21 : C8.Fun K "total" "Row.total" s_Row_total (f 21) (fd 21)
  b21 : Binds K (fd 21) ["self"] []
  a22 : PySem.W.findIn K (.ref (cl 0)) "__len__" = some (some (.ref (f 22)))
  i22 : PySem.W.isFn K (.ref (f 22)) = true
  k22 : PySem.W.keepIn K (.ref (f 22)) = true
  d22 : C8.Fun K "__len__" "Row.__len__" s_Row___len (f 22) (fd 22)
  b22 : Binds K (fd 22) ["self"] []
  a23 : PySem.W.findIn K (.ref (cl 0)) "__contains__" = some (some (.ref (f 23)))
  i23 : PySem.W.isFn K (.ref (f 23)) = true
  k23 : PySem.W.keepIn K (.ref (f 23)) = true
  d23 : C8.Fun K "__contains__" "Row.__contains__" s_Row___contains (f 23) (fd 23)
  b23 : Binds K (fd 23) ["self", "tick"] []
  a24 : PySem.W.findIn K (.ref (cl 0)) "__eq__" = some (some (.ref (f 24)))
  i24 : PySem.W.isFn K (.ref (f 24)) = true
  k24 : PySem.W.keepIn K (.ref (f 24)) = true
  d24 : C8.Fun K "__eq__" "Row.__eq__" s_Row___eq (f 24) (fd 24)
  b24 : Binds K (fd 24) ["self", "other"] []
  m25 : mg "_law_bag" = some (.ref (f 25))
  k25 : PySem.W.keepIn K (.ref (f 25)) = true
  d25 : C8.Fun K "_law_bag" "_law_bag" s_law_bag (f 25) (fd 25)
  b25 : Binds K (fd 25) ["cell", "k"] []
  m26 : mg "_law_draw" = some (.ref (f 26))
  k26 : PySem.W.keepIn K (.ref (f 26)) = true
  d26 : C8.Fun K "_law_draw" "_law_draw" s_law_draw (f 26) (fd 26)
  b26 : Binds K (fd 26) ["bag", "many"] []
  m27 : mg "_law_low" = some (.ref (f 27))
  k27 : PySem.W.keepIn K (.ref (f 27)) = true
  d27 : C8.Fun K "_law_low" "_law_low" s_law_low (f 27) (fd 27)
  b27 : Binds K (fd 27) ["top", "bottom"] []
  m28 : mg "_law_pairs" = some (.ref (f 28))
  k28 : PySem.W.keepIn K (.ref (f 28)) = true
  d28 : C8.Fun K "_law_pairs" "_law_pairs" s_law_pairs (f 28) (fd 28)
  b28 : Binds K (fd 28) ["bag"] []
  m29 : mg "_law_added" = some (.ref (f 29))
  k29 : PySem.W.keepIn K (.ref (f 29)) = true
  d29 : C8.Fun K "_law_added" "_law_added" s_law_added (f 29) (fd 29)
  b29 : Binds K (fd 29) ["one", "two"] []
  m30 : mg "_law_times" = some (.ref (f 30))
  k30 : PySem.W.keepIn K (.ref (f 30)) = true
  d30 : C8.Fun K "_law_times" "_law_times" s_law_times (f 30) (fd 30)
  b30 : Binds K (fd 30) ["one", "two"] []
  m31 : mg "_law_plain" = some (.ref (f 31))
  k31 : PySem.W.keepIn K (.ref (f 31)) = true
  d31 : C8.Fun K "_law_plain" "_law_plain" s_law_plain (f 31) (fd 31)
  b31 : Binds K (fd 31) ["pairs"] []
  m32 : mg "_law_product" = some (.ref (f 32))
  k32 : PySem.W.keepIn K (.ref (f 32)) = true
  d32 : C8.Fun K "_law_product" "_law_product" s_law_product (f 32) (fd 32)
  b32 : Binds K (fd 32) ["one", "two"] []
  m33 : mg "_law_sum" = some (.ref (f 33))
  k33 : PySem.W.keepIn K (.ref (f 33)) = true
  d33 : C8.Fun K "_law_sum" "_law_sum" s_law_sum (f 33) (fd 33)
  b33 : Binds K (fd 33) ["pairs"] []
  m34 : mg "_law_one_right" = some (.ref (f 34))
  k34 : PySem.W.keepIn K (.ref (f 34)) = true
  d34 : C8.Fun K "_law_one_right" "_law_one_right" s_law_one_right (f 34) (fd 34)
  b34 : Binds K (fd 34) ["pairs", "tick"] []
  m35 : mg "_law_fractions_right" = some (.ref (f 35))
  k35 : PySem.W.keepIn K (.ref (f 35)) = true
  d35 : C8.Fun K "_law_fractions_right" "_law_fractions_right" s_law_fractions_right (f 35) (fd 35)
  b35 : Binds K (fd 35) ["one", "two"] []
  m36 : mg "_law_right" = some (.ref (f 36))
  k36 : PySem.W.keepIn K (.ref (f 36)) = true
  d36 : C8.Fun K "_law_right" "_law_right" s_law_right (f 36) (fd 36)
  b36 : Binds K (fd 36) ["bag"] []
  m37 : mg "law" = some (.ref (f 37))
  k37 : PySem.W.keepIn K (.ref (f 37)) = true
  d37 : C8.Fun K "law" "law" s_law (f 37) (fd 37)
  b37 : Binds K (fd 37) ["script"] []
  z_abs : mg "abs" = none
  z_all : mg "all" = none
  z_bool : mg "bool" = none
  z_int : mg "int" = none
  z_isinstance : mg "isinstance" = none
  z_len : mg "len" = none
  z_list : mg "list" = none
  z_range : mg "range" = none
  z_sorted : mg "sorted" = none
  z_tuple : mg "tuple" = none
  kit : ∀ ts : List Ty, (∀ t ∈ ts, match t with
      | .cls c => c < 1
      | .none => False
      | _ => True) → KitOk K cl 1 ts (ts.map (tyVal cl))
theorem gather {K : PySem.W.Frag} {h : Heap} {mg : Str → Option Value} {fa : Addr} (X : K.In h) (G : h.Ns mainGlobals mg) (hfa : mg "law" = some (.ref fa))
    {C0 : Addr}
    {f0 : Addr} {oc0 kV0 dc0 pm0 cd0 ct0 : Value} {od0 an0 : Option Addr} {sl0 : Array (Option Value)}
    {T0 : Addr} {oT0 : Value} {dT0 : Option Addr} {sT0 : Array (Option Value)} {nT0 : Nat}
    {f1 : Addr} {oc1 kV1 dc1 pm1 cd1 ct1 : Value} {od1 an1 : Option Addr} {sl1 : Array (Option Value)}
    {f2 : Addr} {oc2 kV2 dc2 pm2 cd2 ct2 : Value} {od2 an2 : Option Addr} {sl2 : Array (Option Value)}
    {f3 : Addr} {oc3 kV3 dc3 pm3 cd3 ct3 : Value} {od3 an3 : Option Addr} {sl3 : Array (Option Value)}
    {f4 : Addr} {oc4 kV4 dc4 pm4 cd4 ct4 : Value} {od4 an4 : Option Addr} {sl4 : Array (Option Value)}
    {f5 : Addr} {oc5 kV5 dc5 pm5 cd5 ct5 : Value} {od5 an5 : Option Addr} {sl5 : Array (Option Value)}
    {T5 : Addr} {oT5 : Value} {dT5 : Option Addr} {sT5 : Array (Option Value)} {nT5 : Nat} {t5_0 : Tok}
    {f6 : Addr} {oc6 kV6 dc6 pm6 cd6 ct6 : Value} {od6 an6 : Option Addr} {sl6 : Array (Option Value)}
    {f7 : Addr} {oc7 kV7 dc7 pm7 cd7 ct7 : Value} {od7 an7 : Option Addr} {sl7 : Array (Option Value)}
    {f8 : Addr} {oc8 kV8 dc8 pm8 cd8 ct8 : Value} {od8 an8 : Option Addr} {sl8 : Array (Option Value)}
    {f9 : Addr} {oc9 kV9 dc9 pm9 cd9 ct9 : Value} {od9 an9 : Option Addr} {sl9 : Array (Option Value)}
    {f10 : Addr} {oc10 kV10 dc10 pm10 cd10 ct10 : Value} {od10 an10 : Option Addr} {sl10 : Array (Option Value)}
    {f11 : Addr} {oc11 kV11 dc11 pm11 cd11 ct11 : Value} {od11 an11 : Option Addr} {sl11 : Array (Option Value)}
    {f12 : Addr} {oc12 kV12 dc12 pm12 cd12 ct12 : Value} {od12 an12 : Option Addr} {sl12 : Array (Option Value)}
    {f13 : Addr} {oc13 kV13 dc13 pm13 cd13 ct13 : Value} {od13 an13 : Option Addr} {sl13 : Array (Option Value)}
    {T13 : Addr} {oT13 : Value} {dT13 : Option Addr} {sT13 : Array (Option Value)} {nT13 : Nat} {e13_0 : Addr}
    {f14 : Addr} {oc14 kV14 dc14 pm14 cd14 ct14 : Value} {od14 an14 : Option Addr} {sl14 : Array (Option Value)}
    {f15 : Addr} {oc15 kV15 dc15 pm15 cd15 ct15 : Value} {od15 an15 : Option Addr} {sl15 : Array (Option Value)}
    {f16 : Addr} {oc16 kV16 dc16 pm16 cd16 ct16 : Value} {od16 an16 : Option Addr} {sl16 : Array (Option Value)}
    {f17 : Addr} {oc17 kV17 dc17 pm17 cd17 ct17 : Value} {od17 an17 : Option Addr} {sl17 : Array (Option Value)}
    {f18 : Addr} {oc18 kV18 dc18 pm18 cd18 ct18 : Value} {od18 an18 : Option Addr} {sl18 : Array (Option Value)}
    {f19 : Addr} {oc19 kV19 dc19 pm19 cd19 ct19 : Value} {od19 an19 : Option Addr} {sl19 : Array (Option Value)}
    {f20 : Addr} {oc20 kV20 dc20 pm20 cd20 ct20 : Value} {od20 an20 : Option Addr} {sl20 : Array (Option Value)}
    {f21 : Addr} {oc21 kV21 dc21 pm21 cd21 ct21 : Value} {od21 an21 : Option Addr} {sl21 : Array (Option Value)}
    {f22 : Addr} {oc22 kV22 dc22 pm22 cd22 ct22 : Value} {od22 an22 : Option Addr} {sl22 : Array (Option Value)}
    {f23 : Addr} {oc23 kV23 dc23 pm23 cd23 ct23 : Value} {od23 an23 : Option Addr} {sl23 : Array (Option Value)}
    {f24 : Addr} {oc24 kV24 dc24 pm24 cd24 ct24 : Value} {od24 an24 : Option Addr} {sl24 : Array (Option Value)}
    {f25 : Addr} {oc25 kV25 dc25 pm25 cd25 ct25 : Value} {od25 an25 : Option Addr} {sl25 : Array (Option Value)}
    {f26 : Addr} {oc26 kV26 dc26 pm26 cd26 ct26 : Value} {od26 an26 : Option Addr} {sl26 : Array (Option Value)}
    {f27 : Addr} {oc27 kV27 dc27 pm27 cd27 ct27 : Value} {od27 an27 : Option Addr} {sl27 : Array (Option Value)}
    {f28 : Addr} {oc28 kV28 dc28 pm28 cd28 ct28 : Value} {od28 an28 : Option Addr} {sl28 : Array (Option Value)}
    {f29 : Addr} {oc29 kV29 dc29 pm29 cd29 ct29 : Value} {od29 an29 : Option Addr} {sl29 : Array (Option Value)}
    {f30 : Addr} {oc30 kV30 dc30 pm30 cd30 ct30 : Value} {od30 an30 : Option Addr} {sl30 : Array (Option Value)}
    {f31 : Addr} {oc31 kV31 dc31 pm31 cd31 ct31 : Value} {od31 an31 : Option Addr} {sl31 : Array (Option Value)}
    {f32 : Addr} {oc32 kV32 dc32 pm32 cd32 ct32 : Value} {od32 an32 : Option Addr} {sl32 : Array (Option Value)}
    {f33 : Addr} {oc33 kV33 dc33 pm33 cd33 ct33 : Value} {od33 an33 : Option Addr} {sl33 : Array (Option Value)}
    {f34 : Addr} {oc34 kV34 dc34 pm34 cd34 ct34 : Value} {od34 an34 : Option Addr} {sl34 : Array (Option Value)}
    {f35 : Addr} {oc35 kV35 dc35 pm35 cd35 ct35 : Value} {od35 an35 : Option Addr} {sl35 : Array (Option Value)}
    {f36 : Addr} {oc36 kV36 dc36 pm36 cd36 ct36 : Value} {od36 an36 : Option Addr} {sl36 : Array (Option Value)}
    {f37 : Addr} {oc37 kV37 dc37 pm37 cd37 ct37 : Value} {od37 an37 : Option Addr} {sl37 : Array (Option Value)}
    (q0 : PySem.W.nsIn K mainGlobals "Row" = some (some (.ref C0)))
    (pg0 : PySem.W.plainGet K C0 Str.empty = true)
    (hd0 : PySem.W.hasDictIn K C0 = true)
    (po0 : PySem.W.plainOver K C0 = true)
    (sa0 : PySem.W.findIn K (.ref C0) "__setattr__" = some (some (.builtin "object.__setattr__")))
    (ha0 : PySem.W.findIn K (.ref C0) "__class__" = some (some (.builtin "object.__class__")))
    (hn0 : PySem.W.specialIn K (.builtin "object.__class__") "__get__" = some (some (.builtin "getset_descriptor.__get__")))
    (ht0 : PySem.W.takesIn K (.builtin "object.__class__") = some true)
    (hm0 : PySem.W.mroIn K C0 (.type "object") = some true)
    (mk0 : PySem.W.makesIn K C0 = true)
    (kc0 : PySem.W.keepIn K (.ref C0) = true)
    (sf0 : PySem.W.selfFirst K C0 = true)
    (ne0 : PySem.W.findIn K (.ref C0) "__ne__" = some (some (.builtin "object.__ne__")))
    (na0_shares : PySem.W.findIn K (.ref C0) "shares" = some none)
    (a0 : PySem.W.nsIn K mainGlobals "is_integer" = some (some (.ref f0)))
    (l0 : K.lookup f0 = some ⟨oc0, od0, .func (PySem.W.fnOf "is_integer" "is_integer" (C8.fnArgs s_is_integer) (C8.fnBody s_is_integer) (C8.fnScope s_is_integer) (.ref T0) kV0 dc0 pm0 an0 cd0 ct0), sl0⟩)
    (c0 : PySem.W.codeIn K cd0 "is_integer" = true)
    (k0 : PySem.W.keepIn K (.ref f0) = true)
    (lT0 : K.lookup T0 = some ⟨oT0, dT0, .seq #[.none, .none] nT0, sT0⟩)
    (a1 : PySem.W.nsIn K mainGlobals "divisor_of" = some (some (.ref f1)))
    (l1 : K.lookup f1 = some ⟨oc1, od1, .func (PySem.W.fnOf "divisor_of" "divisor_of" (C8.fnArgs s_divisor_of) (C8.fnBody s_divisor_of) (C8.fnScope s_divisor_of) .none kV1 dc1 pm1 an1 cd1 ct1), sl1⟩)
    (c1 : PySem.W.codeIn K cd1 "divisor_of" = true)
    (k1 : PySem.W.keepIn K (.ref f1) = true)
    (a2 : PySem.W.nsIn K mainGlobals "simplified" = some (some (.ref f2)))
    (l2 : K.lookup f2 = some ⟨oc2, od2, .func (PySem.W.fnOf "simplified" "simplified" (C8.fnArgs s_simplified) (C8.fnBody s_simplified) (C8.fnScope s_simplified) .none kV2 dc2 pm2 an2 cd2 ct2), sl2⟩)
    (c2 : PySem.W.codeIn K cd2 "simplified" = true)
    (k2 : PySem.W.keepIn K (.ref f2) = true)
    (a3 : PySem.W.nsIn K mainGlobals "is_fraction" = some (some (.ref f3)))
    (l3 : K.lookup f3 = some ⟨oc3, od3, .func (PySem.W.fnOf "is_fraction" "is_fraction" (C8.fnArgs s_is_fraction) (C8.fnBody s_is_fraction) (C8.fnScope s_is_fraction) .none kV3 dc3 pm3 an3 cd3 ct3), sl3⟩)
    (c3 : PySem.W.codeIn K cd3 "is_fraction" = true)
    (k3 : PySem.W.keepIn K (.ref f3) = true)
    (a4 : PySem.W.nsIn K mainGlobals "check_fractions" = some (some (.ref f4)))
    (l4 : K.lookup f4 = some ⟨oc4, od4, .func (PySem.W.fnOf "check_fractions" "check_fractions" (C8.fnArgs s_check_fractions) (C8.fnBody s_check_fractions) (C8.fnScope s_check_fractions) .none kV4 dc4 pm4 an4 cd4 ct4), sl4⟩)
    (c4 : PySem.W.codeIn K cd4 "check_fractions" = true)
    (k4 : PySem.W.keepIn K (.ref f4) = true)
    (a5 : PySem.W.nsIn K mainGlobals "fraction" = some (some (.ref f5)))
    (l5 : K.lookup f5 = some ⟨oc5, od5, .func (PySem.W.fnOf "fraction" "fraction" (C8.fnArgs s_fraction) (C8.fnBody s_fraction) (C8.fnScope s_fraction) (.ref T5) kV5 dc5 pm5 an5 cd5 ct5), sl5⟩)
    (c5 : PySem.W.codeIn K cd5 "fraction" = true)
    (k5 : PySem.W.keepIn K (.ref f5) = true)
    (lT5 : K.lookup T5 = some ⟨oT5, dT5, .seq #[(.int 1 t5_0)] nT5, sT5⟩)
    (a6 : PySem.W.nsIn K mainGlobals "plus" = some (some (.ref f6)))
    (l6 : K.lookup f6 = some ⟨oc6, od6, .func (PySem.W.fnOf "plus" "plus" (C8.fnArgs s_plus) (C8.fnBody s_plus) (C8.fnScope s_plus) .none kV6 dc6 pm6 an6 cd6 ct6), sl6⟩)
    (c6 : PySem.W.codeIn K cd6 "plus" = true)
    (k6 : PySem.W.keepIn K (.ref f6) = true)
    (a7 : PySem.W.nsIn K mainGlobals "minus" = some (some (.ref f7)))
    (l7 : K.lookup f7 = some ⟨oc7, od7, .func (PySem.W.fnOf "minus" "minus" (C8.fnArgs s_minus) (C8.fnBody s_minus) (C8.fnScope s_minus) .none kV7 dc7 pm7 an7 cd7 ct7), sl7⟩)
    (c7 : PySem.W.codeIn K cd7 "minus" = true)
    (k7 : PySem.W.keepIn K (.ref f7) = true)
    (a8 : PySem.W.nsIn K mainGlobals "times" = some (some (.ref f8)))
    (l8 : K.lookup f8 = some ⟨oc8, od8, .func (PySem.W.fnOf "times" "times" (C8.fnArgs s_times) (C8.fnBody s_times) (C8.fnScope s_times) .none kV8 dc8 pm8 an8 cd8 ct8), sl8⟩)
    (c8 : PySem.W.codeIn K cd8 "times" = true)
    (k8 : PySem.W.keepIn K (.ref f8) = true)
    (a9 : PySem.W.nsIn K mainGlobals "over" = some (some (.ref f9)))
    (l9 : K.lookup f9 = some ⟨oc9, od9, .func (PySem.W.fnOf "over" "over" (C8.fnArgs s_over) (C8.fnBody s_over) (C8.fnScope s_over) .none kV9 dc9 pm9 an9 cd9 ct9), sl9⟩)
    (c9 : PySem.W.codeIn K cd9 "over" = true)
    (k9 : PySem.W.keepIn K (.ref f9) = true)
    (a10 : PySem.W.nsIn K mainGlobals "is_less" = some (some (.ref f10)))
    (l10 : K.lookup f10 = some ⟨oc10, od10, .func (PySem.W.fnOf "is_less" "is_less" (C8.fnArgs s_is_less) (C8.fnBody s_is_less) (C8.fnScope s_is_less) .none kV10 dc10 pm10 an10 cd10 ct10), sl10⟩)
    (c10 : PySem.W.codeIn K cd10 "is_less" = true)
    (k10 : PySem.W.keepIn K (.ref f10) = true)
    (a11 : PySem.W.nsIn K mainGlobals "is_pair" = some (some (.ref f11)))
    (l11 : K.lookup f11 = some ⟨oc11, od11, .func (PySem.W.fnOf "is_pair" "is_pair" (C8.fnArgs s_is_pair) (C8.fnBody s_is_pair) (C8.fnScope s_is_pair) .none kV11 dc11 pm11 an11 cd11 ct11), sl11⟩)
    (c11 : PySem.W.codeIn K cd11 "is_pair" = true)
    (k11 : PySem.W.keepIn K (.ref f11) = true)
    (a12 : PySem.W.nsIn K mainGlobals "check_tick" = some (some (.ref f12)))
    (l12 : K.lookup f12 = some ⟨oc12, od12, .func (PySem.W.fnOf "check_tick" "check_tick" (C8.fnArgs s_check_tick) (C8.fnBody s_check_tick) (C8.fnScope s_check_tick) .none kV12 dc12 pm12 an12 cd12 ct12), sl12⟩)
    (c12 : PySem.W.codeIn K cd12 "check_tick" = true)
    (k12 : PySem.W.keepIn K (.ref f12) = true)
    (a13 : PySem.W.findIn K (.ref C0) "__init__" = some (some (.ref f13)))
    (i13 : PySem.W.isFn K (.ref f13) = true)
    (l13 : K.lookup f13 = some ⟨oc13, od13, .func (PySem.W.fnOf "__init__" "Row.__init__" (C8.fnArgs s_Row___init) (C8.fnBody s_Row___init) (C8.fnScope s_Row___init) (.ref T13) kV13 dc13 pm13 an13 cd13 ct13), sl13⟩)
    (c13 : PySem.W.codeIn K cd13 "Row.__init__" = true)
    (k13 : PySem.W.keepIn K (.ref f13) = true)
    (lT13 : K.lookup T13 = some ⟨oT13, dT13, .seq #[(.ref e13_0)] nT13, sT13⟩)
    (a14 : PySem.W.findIn K (.ref C0) "pairs" = some (some (.ref f14)))
    (i14 : PySem.W.isFn K (.ref f14) = true)
    (l14 : K.lookup f14 = some ⟨oc14, od14, .func (PySem.W.fnOf "pairs" "Row.pairs" (C8.fnArgs s_Row_pairs) (C8.fnBody s_Row_pairs) (C8.fnScope s_Row_pairs) .none kV14 dc14 pm14 an14 cd14 ct14), sl14⟩)
    (c14 : PySem.W.codeIn K cd14 "Row.pairs" = true)
    (k14 : PySem.W.keepIn K (.ref f14) = true)
    (a15 : PySem.W.findIn K (.ref C0) "__add__" = some (some (.ref f15)))
    (i15 : PySem.W.isFn K (.ref f15) = true)
    (l15 : K.lookup f15 = some ⟨oc15, od15, .func (PySem.W.fnOf "__add__" "Row.__add__" (C8.fnArgs s_Row___add) (C8.fnBody s_Row___add) (C8.fnScope s_Row___add) .none kV15 dc15 pm15 an15 cd15 ct15), sl15⟩)
    (c15 : PySem.W.codeIn K cd15 "Row.__add__" = true)
    (k15 : PySem.W.keepIn K (.ref f15) = true)
    (a16 : PySem.W.findIn K (.ref C0) "__mul__" = some (some (.ref f16)))
    (i16 : PySem.W.isFn K (.ref f16) = true)
    (l16 : K.lookup f16 = some ⟨oc16, od16, .func (PySem.W.fnOf "__mul__" "Row.__mul__" (C8.fnArgs s_Row___mul) (C8.fnBody s_Row___mul) (C8.fnScope s_Row___mul) .none kV16 dc16 pm16 an16 cd16 ct16), sl16⟩)
    (c16 : PySem.W.codeIn K cd16 "Row.__mul__" = true)
    (k16 : PySem.W.keepIn K (.ref f16) = true)
    (a17 : PySem.W.findIn K (.ref C0) "moved" = some (some (.ref f17)))
    (i17 : PySem.W.isFn K (.ref f17) = true)
    (l17 : K.lookup f17 = some ⟨oc17, od17, .func (PySem.W.fnOf "moved" "Row.moved" (C8.fnArgs s_Row_moved) (C8.fnBody s_Row_moved) (C8.fnScope s_Row_moved) .none kV17 dc17 pm17 an17 cd17 ct17), sl17⟩)
    (c17 : PySem.W.codeIn K cd17 "Row.moved" = true)
    (k17 : PySem.W.keepIn K (.ref f17) = true)
    (a18 : PySem.W.findIn K (.ref C0) "cut" = some (some (.ref f18)))
    (i18 : PySem.W.isFn K (.ref f18) = true)
    (l18 : K.lookup f18 = some ⟨oc18, od18, .func (PySem.W.fnOf "cut" "Row.cut" (C8.fnArgs s_Row_cut) (C8.fnBody s_Row_cut) (C8.fnScope s_Row_cut) .none kV18 dc18 pm18 an18 cd18 ct18), sl18⟩)
    (c18 : PySem.W.codeIn K cd18 "Row.cut" = true)
    (k18 : PySem.W.keepIn K (.ref f18) = true)
    (a19 : PySem.W.findIn K (.ref C0) "at" = some (some (.ref f19)))
    (i19 : PySem.W.isFn K (.ref f19) = true)
    (l19 : K.lookup f19 = some ⟨oc19, od19, .func (PySem.W.fnOf "at" "Row.at" (C8.fnArgs s_Row_at) (C8.fnBody s_Row_at) (C8.fnScope s_Row_at) .none kV19 dc19 pm19 an19 cd19 ct19), sl19⟩)
    (c19 : PySem.W.codeIn K cd19 "Row.at" = true)
    (k19 : PySem.W.keepIn K (.ref f19) = true)
    (a20 : PySem.W.findIn K (.ref C0) "up_to" = some (some (.ref f20)))
    (i20 : PySem.W.isFn K (.ref f20) = true)
    (l20 : K.lookup f20 = some ⟨oc20, od20, .func (PySem.W.fnOf "up_to" "Row.up_to" (C8.fnArgs s_Row_up_to) (C8.fnBody s_Row_up_to) (C8.fnScope s_Row_up_to) .none kV20 dc20 pm20 an20 cd20 ct20), sl20⟩)
    (c20 : PySem.W.codeIn K cd20 "Row.up_to" = true)
    (k20 : PySem.W.keepIn K (.ref f20) = true)
    (a21 : PySem.W.findIn K (.ref C0) "total" = some (some (.ref f21)))
    (i21 : PySem.W.isFn K (.ref f21) = true)
    (l21 : K.lookup f21 = some ⟨oc21, od21, .func (PySem.W.fnOf "total" "Row.total" (C8.fnArgs s_Row_total) (C8.fnBody s_Row_total) (C8.fnScope s_Row_total) .none kV21 dc21 pm21 an21 cd21 ct21), sl21⟩)
    (c21 : PySem.W.codeIn K cd21 "Row.total" = true)
    (k21 : PySem.W.keepIn K (.ref f21) = true)
    (a22 : PySem.W.findIn K (.ref C0) "__len__" = some (some (.ref f22)))
    (i22 : PySem.W.isFn K (.ref f22) = true)
    (l22 : K.lookup f22 = some ⟨oc22, od22, .func (PySem.W.fnOf "__len__" "Row.__len__" (C8.fnArgs s_Row___len) (C8.fnBody s_Row___len) (C8.fnScope s_Row___len) .none kV22 dc22 pm22 an22 cd22 ct22), sl22⟩)
    (c22 : PySem.W.codeIn K cd22 "Row.__len__" = true)
    (k22 : PySem.W.keepIn K (.ref f22) = true)
    (a23 : PySem.W.findIn K (.ref C0) "__contains__" = some (some (.ref f23)))
    (i23 : PySem.W.isFn K (.ref f23) = true)
    (l23 : K.lookup f23 = some ⟨oc23, od23, .func (PySem.W.fnOf "__contains__" "Row.__contains__" (C8.fnArgs s_Row___contains) (C8.fnBody s_Row___contains) (C8.fnScope s_Row___contains) .none kV23 dc23 pm23 an23 cd23 ct23), sl23⟩)
    (c23 : PySem.W.codeIn K cd23 "Row.__contains__" = true)
    (k23 : PySem.W.keepIn K (.ref f23) = true)
    (a24 : PySem.W.findIn K (.ref C0) "__eq__" = some (some (.ref f24)))
    (i24 : PySem.W.isFn K (.ref f24) = true)
    (l24 : K.lookup f24 = some ⟨oc24, od24, .func (PySem.W.fnOf "__eq__" "Row.__eq__" (C8.fnArgs s_Row___eq) (C8.fnBody s_Row___eq) (C8.fnScope s_Row___eq) .none kV24 dc24 pm24 an24 cd24 ct24), sl24⟩)
    (c24 : PySem.W.codeIn K cd24 "Row.__eq__" = true)
    (k24 : PySem.W.keepIn K (.ref f24) = true)
    (a25 : PySem.W.nsIn K mainGlobals "_law_bag" = some (some (.ref f25)))
    (l25 : K.lookup f25 = some ⟨oc25, od25, .func (PySem.W.fnOf "_law_bag" "_law_bag" (C8.fnArgs s_law_bag) (C8.fnBody s_law_bag) (C8.fnScope s_law_bag) .none kV25 dc25 pm25 an25 cd25 ct25), sl25⟩)
    (c25 : PySem.W.codeIn K cd25 "_law_bag" = true)
    (k25 : PySem.W.keepIn K (.ref f25) = true)
    (a26 : PySem.W.nsIn K mainGlobals "_law_draw" = some (some (.ref f26)))
    (l26 : K.lookup f26 = some ⟨oc26, od26, .func (PySem.W.fnOf "_law_draw" "_law_draw" (C8.fnArgs s_law_draw) (C8.fnBody s_law_draw) (C8.fnScope s_law_draw) .none kV26 dc26 pm26 an26 cd26 ct26), sl26⟩)
    (c26 : PySem.W.codeIn K cd26 "_law_draw" = true)
    (k26 : PySem.W.keepIn K (.ref f26) = true)
    (a27 : PySem.W.nsIn K mainGlobals "_law_low" = some (some (.ref f27)))
    (l27 : K.lookup f27 = some ⟨oc27, od27, .func (PySem.W.fnOf "_law_low" "_law_low" (C8.fnArgs s_law_low) (C8.fnBody s_law_low) (C8.fnScope s_law_low) .none kV27 dc27 pm27 an27 cd27 ct27), sl27⟩)
    (c27 : PySem.W.codeIn K cd27 "_law_low" = true)
    (k27 : PySem.W.keepIn K (.ref f27) = true)
    (a28 : PySem.W.nsIn K mainGlobals "_law_pairs" = some (some (.ref f28)))
    (l28 : K.lookup f28 = some ⟨oc28, od28, .func (PySem.W.fnOf "_law_pairs" "_law_pairs" (C8.fnArgs s_law_pairs) (C8.fnBody s_law_pairs) (C8.fnScope s_law_pairs) .none kV28 dc28 pm28 an28 cd28 ct28), sl28⟩)
    (c28 : PySem.W.codeIn K cd28 "_law_pairs" = true)
    (k28 : PySem.W.keepIn K (.ref f28) = true)
    (a29 : PySem.W.nsIn K mainGlobals "_law_added" = some (some (.ref f29)))
    (l29 : K.lookup f29 = some ⟨oc29, od29, .func (PySem.W.fnOf "_law_added" "_law_added" (C8.fnArgs s_law_added) (C8.fnBody s_law_added) (C8.fnScope s_law_added) .none kV29 dc29 pm29 an29 cd29 ct29), sl29⟩)
    (c29 : PySem.W.codeIn K cd29 "_law_added" = true)
    (k29 : PySem.W.keepIn K (.ref f29) = true)
    (a30 : PySem.W.nsIn K mainGlobals "_law_times" = some (some (.ref f30)))
    (l30 : K.lookup f30 = some ⟨oc30, od30, .func (PySem.W.fnOf "_law_times" "_law_times" (C8.fnArgs s_law_times) (C8.fnBody s_law_times) (C8.fnScope s_law_times) .none kV30 dc30 pm30 an30 cd30 ct30), sl30⟩)
    (c30 : PySem.W.codeIn K cd30 "_law_times" = true)
    (k30 : PySem.W.keepIn K (.ref f30) = true)
    (a31 : PySem.W.nsIn K mainGlobals "_law_plain" = some (some (.ref f31)))
    (l31 : K.lookup f31 = some ⟨oc31, od31, .func (PySem.W.fnOf "_law_plain" "_law_plain" (C8.fnArgs s_law_plain) (C8.fnBody s_law_plain) (C8.fnScope s_law_plain) .none kV31 dc31 pm31 an31 cd31 ct31), sl31⟩)
    (c31 : PySem.W.codeIn K cd31 "_law_plain" = true)
    (k31 : PySem.W.keepIn K (.ref f31) = true)
    (a32 : PySem.W.nsIn K mainGlobals "_law_product" = some (some (.ref f32)))
    (l32 : K.lookup f32 = some ⟨oc32, od32, .func (PySem.W.fnOf "_law_product" "_law_product" (C8.fnArgs s_law_product) (C8.fnBody s_law_product) (C8.fnScope s_law_product) .none kV32 dc32 pm32 an32 cd32 ct32), sl32⟩)
    (c32 : PySem.W.codeIn K cd32 "_law_product" = true)
    (k32 : PySem.W.keepIn K (.ref f32) = true)
    (a33 : PySem.W.nsIn K mainGlobals "_law_sum" = some (some (.ref f33)))
    (l33 : K.lookup f33 = some ⟨oc33, od33, .func (PySem.W.fnOf "_law_sum" "_law_sum" (C8.fnArgs s_law_sum) (C8.fnBody s_law_sum) (C8.fnScope s_law_sum) .none kV33 dc33 pm33 an33 cd33 ct33), sl33⟩)
    (c33 : PySem.W.codeIn K cd33 "_law_sum" = true)
    (k33 : PySem.W.keepIn K (.ref f33) = true)
    (a34 : PySem.W.nsIn K mainGlobals "_law_one_right" = some (some (.ref f34)))
    (l34 : K.lookup f34 = some ⟨oc34, od34, .func (PySem.W.fnOf "_law_one_right" "_law_one_right" (C8.fnArgs s_law_one_right) (C8.fnBody s_law_one_right) (C8.fnScope s_law_one_right) .none kV34 dc34 pm34 an34 cd34 ct34), sl34⟩)
    (c34 : PySem.W.codeIn K cd34 "_law_one_right" = true)
    (k34 : PySem.W.keepIn K (.ref f34) = true)
    (a35 : PySem.W.nsIn K mainGlobals "_law_fractions_right" = some (some (.ref f35)))
    (l35 : K.lookup f35 = some ⟨oc35, od35, .func (PySem.W.fnOf "_law_fractions_right" "_law_fractions_right" (C8.fnArgs s_law_fractions_right) (C8.fnBody s_law_fractions_right) (C8.fnScope s_law_fractions_right) .none kV35 dc35 pm35 an35 cd35 ct35), sl35⟩)
    (c35 : PySem.W.codeIn K cd35 "_law_fractions_right" = true)
    (k35 : PySem.W.keepIn K (.ref f35) = true)
    (a36 : PySem.W.nsIn K mainGlobals "_law_right" = some (some (.ref f36)))
    (l36 : K.lookup f36 = some ⟨oc36, od36, .func (PySem.W.fnOf "_law_right" "_law_right" (C8.fnArgs s_law_right) (C8.fnBody s_law_right) (C8.fnScope s_law_right) .none kV36 dc36 pm36 an36 cd36 ct36), sl36⟩)
    (c36 : PySem.W.codeIn K cd36 "_law_right" = true)
    (k36 : PySem.W.keepIn K (.ref f36) = true)
    (a37 : PySem.W.nsIn K mainGlobals "law" = some (some (.ref f37)))
    (l37 : K.lookup f37 = some ⟨oc37, od37, .func (PySem.W.fnOf "law" "law" (C8.fnArgs s_law) (C8.fnBody s_law) (C8.fnScope s_law) .none kV37 dc37 pm37 an37 cd37 ct37), sl37⟩)
    (c37 : PySem.W.codeIn K cd37 "law" = true)
    (k37 : PySem.W.keepIn K (.ref f37) = true)
    (z_abs : PySem.W.nsIn K mainGlobals "abs" = some none)
    (z_all : PySem.W.nsIn K mainGlobals "all" = some none)
    (z_bool : PySem.W.nsIn K mainGlobals "bool" = some none)
    (z_int : PySem.W.nsIn K mainGlobals "int" = some none)
    (z_isinstance : PySem.W.nsIn K mainGlobals "isinstance" = some none)
    (z_len : PySem.W.nsIn K mainGlobals "len" = some none)
    (z_list : PySem.W.nsIn K mainGlobals "list" = some none)
    (z_range : PySem.W.nsIn K mainGlobals "range" = some none)
    (z_sorted : PySem.W.nsIn K mainGlobals "sorted" = some none)
    (z_tuple : PySem.W.nsIn K mainGlobals "tuple" = some none)
    (ic0 : PySem.W.isClsIn K C0 = true)
    (ty0 : PySem.W.typeIn K (.ref C0) = some (.type "type"))
    (u0_0 : PySem.W.subIn K (.type "NoneType") (.ref C0) = some false)
    (u0_1 : PySem.W.subIn K (.type "bool") (.ref C0) = some false)
    (u0_2 : PySem.W.subIn K (.type "int") (.ref C0) = some false)
    (u0_3 : PySem.W.subIn K (.type "str") (.ref C0) = some false)
    (u0_4 : PySem.W.subIn K (.type "tuple") (.ref C0) = some false)
    (u0_5 : PySem.W.subIn K (.type "list") (.ref C0) = some false)
    (u0_6 : PySem.W.subIn K (.type "dict") (.ref C0) = some false)
    (v0_0 : PySem.W.subIn K (.ref C0) (.type "NoneType") = some false)
    (v0_1 : PySem.W.subIn K (.ref C0) (.type "bool") = some false)
    (v0_2 : PySem.W.subIn K (.ref C0) (.type "int") = some false)
    (v0_3 : PySem.W.subIn K (.ref C0) (.type "str") = some false)
    (v0_4 : PySem.W.subIn K (.ref C0) (.type "tuple") = some false)
    (v0_5 : PySem.W.subIn K (.ref C0) (.type "list") = some false)
    (v0_6 : PySem.W.subIn K (.ref C0) (.type "dict") = some false) :
    ∃ (cl f : Nat → Addr) (fd : Nat → FuncData), f 37 = fa ∧ (∀ (s : Shared) (v : Value), BindsTo s (fd 37) ⟨[v], []⟩ [("script", v)]) ∧ Txt K mg cl f fd := by
  have e := hfa.symm.trans (PySem.W.mg_of X G a37)
  cases e
  obtain ⟨fd0, g0⟩ := mk_is_integer l0 c0 k0 lT0
  obtain ⟨fd1, g1⟩ := mk_divisor_of l1 c1
  obtain ⟨fd2, g2⟩ := mk_simplified l2 c2
  obtain ⟨fd3, g3⟩ := mk_is_fraction l3 c3
  obtain ⟨fd4, g4⟩ := mk_check_fractions l4 c4
  obtain ⟨fd5, g5⟩ := mk_fraction l5 c5 k5 lT5
  obtain ⟨fd6, g6⟩ := mk_plus l6 c6
  obtain ⟨fd7, g7⟩ := mk_minus l7 c7
  obtain ⟨fd8, g8⟩ := mk_times l8 c8
  obtain ⟨fd9, g9⟩ := mk_over l9 c9
  obtain ⟨fd10, g10⟩ := mk_is_less l10 c10
  obtain ⟨fd11, g11⟩ := mk_is_pair l11 c11
  obtain ⟨fd12, g12⟩ := mk_check_tick l12 c12
  obtain ⟨fd13, g13⟩ := mk_Row___init l13 c13 k13 lT13
  obtain ⟨fd14, g14⟩ := mk_Row_pairs l14 c14
  obtain ⟨fd15, g15⟩ := mk_Row___add l15 c15
  obtain ⟨fd16, g16⟩ := mk_Row___mul l16 c16
  obtain ⟨fd17, g17⟩ := mk_Row_moved l17 c17
  obtain ⟨fd18, g18⟩ := mk_Row_cut l18 c18
  obtain ⟨fd19, g19⟩ := mk_Row_at l19 c19
  obtain ⟨fd20, g20⟩ := mk_Row_up_to l20 c20
  obtain ⟨fd21, g21⟩ := mk_Row_total l21 c21
  obtain ⟨fd22, g22⟩ := mk_Row___len l22 c22
  obtain ⟨fd23, g23⟩ := mk_Row___contains l23 c23
  obtain ⟨fd24, g24⟩ := mk_Row___eq l24 c24
  obtain ⟨fd25, g25⟩ := mk_law_bag l25 c25
  obtain ⟨fd26, g26⟩ := mk_law_draw l26 c26
  obtain ⟨fd27, g27⟩ := mk_law_low l27 c27
  obtain ⟨fd28, g28⟩ := mk_law_pairs l28 c28
  obtain ⟨fd29, g29⟩ := mk_law_added l29 c29
  obtain ⟨fd30, g30⟩ := mk_law_times l30 c30
  obtain ⟨fd31, g31⟩ := mk_law_plain l31 c31
  obtain ⟨fd32, g32⟩ := mk_law_product l32 c32
  obtain ⟨fd33, g33⟩ := mk_law_sum l33 c33
  obtain ⟨fd34, g34⟩ := mk_law_one_right l34 c34
  obtain ⟨fd35, g35⟩ := mk_law_fractions_right l35 c35
  obtain ⟨fd36, g36⟩ := mk_law_right l36 c36
  obtain ⟨fd37, g37⟩ := mk_law l37 c37
  refine ⟨fun i => [C0].getD i 0, fun i => [f0, f1, f2, f3, f4, f5, f6, f7, f8, f9, f10, f11, f12, f13, f14, f15, f16, f17, f18, f19, f20, f21, f22, f23, f24, f25, f26, f27, f28, f29, f30, f31, f32, f33, f34, f35, f36, fa].getD i 0, fun i => [fd0, fd1, fd2, fd3, fd4, fd5, fd6, fd7, fd8, fd9, fd10, fd11, fd12, fd13, fd14, fd15, fd16, fd17, fd18, fd19, fd20, fd21, fd22, fd23, fd24, fd25, fd26, fd27, fd28, fd29, fd30, fd31, fd32, fd33, fd34, fd35, fd36, fd37].getD i fd37, rfl, fun s v => ?_, ?_⟩
  · exact g37.2.2 s v
  · exact {
      q0 := PySem.W.mg_of X G q0
      cls0 := ⟨⟨pg0, hd0, po0, sa0⟩, ha0, hn0, ht0, hm0⟩
      mk0 := mk0
      kc0 := kc0
      sf0 := sf0
      ne0 := ne0
      hm0 := hm0
      na0_shares := na0_shares
      m0 := PySem.W.mg_of X G a0
      k0 := k0
      d0 := g0.1
      b0 := g0.2
      m1 := PySem.W.mg_of X G a1
      k1 := k1
      d1 := g1.1
      b1 := g1.2
      m2 := PySem.W.mg_of X G a2
      k2 := k2
      d2 := g2.1
      b2 := g2.2
      m3 := PySem.W.mg_of X G a3
      k3 := k3
      d3 := g3.1
      b3 := g3.2
      m4 := PySem.W.mg_of X G a4
      k4 := k4
      d4 := g4.1
      b4 := g4.2
      m5 := PySem.W.mg_of X G a5
      k5 := k5
      d5 := g5.1
      b5 := g5.2
      m6 := PySem.W.mg_of X G a6
      k6 := k6
      d6 := g6.1
      b6 := g6.2
      m7 := PySem.W.mg_of X G a7
      k7 := k7
      d7 := g7.1
      b7 := g7.2
      m8 := PySem.W.mg_of X G a8
      k8 := k8
      d8 := g8.1
      b8 := g8.2
      m9 := PySem.W.mg_of X G a9
      k9 := k9
      d9 := g9.1
      b9 := g9.2
      m10 := PySem.W.mg_of X G a10
      k10 := k10
      d10 := g10.1
      b10 := g10.2
      m11 := PySem.W.mg_of X G a11
      k11 := k11
      d11 := g11.1
      b11 := g11.2
      m12 := PySem.W.mg_of X G a12
      k12 := k12
      d12 := g12.1
      b12 := g12.2
      a13 := a13
      i13 := i13
      k13 := k13
      d13 := g13.1
      b13 := ⟨_, g13.2⟩
      a14 := a14
      i14 := i14
      k14 := k14
      d14 := g14.1
      b14 := g14.2
      a15 := a15
      i15 := i15
      k15 := k15
      d15 := g15.1
      b15 := g15.2
      a16 := a16
      i16 := i16
      k16 := k16
      d16 := g16.1
      b16 := g16.2
      a17 := a17
      i17 := i17
      k17 := k17
      d17 := g17.1
      b17 := g17.2
      a18 := a18
      i18 := i18
      k18 := k18
      d18 := g18.1
      b18 := g18.2
      a19 := a19
      i19 := i19
      k19 := k19
      d19 := g19.1
      b19 := g19.2
      a20 := a20
      i20 := i20
      k20 := k20
      d20 := g20.1
      b20 := g20.2
      a21 := a21
      i21 := i21
      k21 := k21
      d21 := g21.1
      b21 := g21.2
      a22 := a22
      i22 := i22
      k22 := k22
      d22 := g22.1
      b22 := g22.2
      a23 := a23
      i23 := i23
      k23 := k23
      d23 := g23.1
      b23 := g23.2
      a24 := a24
      i24 := i24
      k24 := k24
      d24 := g24.1
      b24 := g24.2
      m25 := PySem.W.mg_of X G a25
      k25 := k25
      d25 := g25.1
      b25 := g25.2
      m26 := PySem.W.mg_of X G a26
      k26 := k26
      d26 := g26.1
      b26 := g26.2
      m27 := PySem.W.mg_of X G a27
      k27 := k27
      d27 := g27.1
      b27 := g27.2
      m28 := PySem.W.mg_of X G a28
      k28 := k28
      d28 := g28.1
      b28 := g28.2
      m29 := PySem.W.mg_of X G a29
      k29 := k29
      d29 := g29.1
      b29 := g29.2
      m30 := PySem.W.mg_of X G a30
      k30 := k30
      d30 := g30.1
      b30 := g30.2
      m31 := PySem.W.mg_of X G a31
      k31 := k31
      d31 := g31.1
      b31 := g31.2
      m32 := PySem.W.mg_of X G a32
      k32 := k32
      d32 := g32.1
      b32 := g32.2
      m33 := PySem.W.mg_of X G a33
      k33 := k33
      d33 := g33.1
      b33 := g33.2
      m34 := PySem.W.mg_of X G a34
      k34 := k34
      d34 := g34.1
      b34 := g34.2
      m35 := PySem.W.mg_of X G a35
      k35 := k35
      d35 := g35.1
      b35 := g35.2
      m36 := PySem.W.mg_of X G a36
      k36 := k36
      d36 := g36.1
      b36 := g36.2
      m37 := PySem.W.mg_of X G a37
      k37 := k37
      d37 := g37.1
      b37 := g37.2.1
      z_abs := PySem.W.mg_none_of X G z_abs
      z_all := PySem.W.mg_none_of X G z_all
      z_bool := PySem.W.mg_none_of X G z_bool
      z_int := PySem.W.mg_none_of X G z_int
      z_isinstance := PySem.W.mg_none_of X G z_isinstance
      z_len := PySem.W.mg_none_of X G z_len
      z_list := PySem.W.mg_none_of X G z_list
      z_range := PySem.W.mg_none_of X G z_range
      z_sorted := PySem.W.mg_none_of X G z_sorted
      z_tuple := PySem.W.mg_none_of X G z_tuple
      kit := by
        have kc0 : KitC K C0 := ⟨ic0, ty0, fun a ha => (by simp only [seven, List.mem_cons, List.not_mem_nil, or_false] at ha; rcases ha with rfl | rfl | rfl | rfl | rfl | rfl | rfl <;> first | exact u0_0 | exact u0_1 | exact u0_2 | exact u0_3 | exact u0_4 | exact u0_5 | exact u0_6), fun a ha => (by simp only [seven, List.mem_cons, List.not_mem_nil, or_false] at ha; rcases ha with rfl | rfl | rfl | rfl | rfl | rfl | rfl <;> first | exact v0_0 | exact v0_1 | exact v0_2 | exact v0_3 | exact v0_4 | exact v0_5 | exact v0_6)⟩
        intro ts
        refine kit_gen (fun c hc => ?_) (fun c c' h1 h2 h3 => ?_)
        · match c, hc with
          | 0, _ => exact kc0
        · exact absurd (show c = c' by omega) h3
  }
end K86
/-! written by mkfin.py: the join -/
namespace K86
open PySem PD L2
/-- what the defs do -/
noncomputable def F : Nat → List PD.Arg → LR
  | 0 => F_isint
  | 1 => F_gcd
  | 2 => F_simpl
  | 3 => F_isfr
  | 4 => F_chk
  | 5 => F_frac
  | 6 => F_plus
  | 7 => F_minus
  | 8 => F_times
  | 9 => F_over
  | 10 => F_less
  | 11 => F_ispair
  | 12 => F_chkt
  | 13 => F_init
  | 14 => F_pairs
  | 15 => F_radd
  | 16 => F_rmul
  | 17 => F_moved
  | 18 => F_cut
  | 19 => F_at
  | 20 => F_upto
  | 21 => F_tot
  | 22 => F_rlen
  | 23 => F_rin
  | 24 => F_req
  | 25 => F_bag
  | 26 => F_draw
  | 27 => F_low
  | 28 => F_lpr
  | 29 => F_ladd
  | 30 => F_ltim
  | 31 => F_plain
  | 32 => F_prod
  | 33 => F_lsum
  | 34 => F_lone
  | 35 => F_lfr
  | 36 => F_lright
  | 37 => F_law
  | _ => fun _ => .bad
def psn : Nat → List Str
  | 0 => ["value", "least", "greatest"]
  | 1 => ["one", "other"]
  | 2 => ["top", "bottom"]
  | 3 => ["value"]
  | 4 => ["one", "other"]
  | 5 => ["top", "bottom"]
  | 6 => ["one", "other"]
  | 7 => ["one", "other"]
  | 8 => ["one", "other"]
  | 9 => ["one", "other"]
  | 10 => ["one", "other"]
  | 11 => ["value"]
  | 12 => ["value"]
  | 13 => ["self", "pairs"]
  | 14 => ["self"]
  | 15 => ["self", "other"]
  | 16 => ["self", "other"]
  | 17 => ["self", "ticks"]
  | 18 => ["self", "tick"]
  | 19 => ["self", "tick"]
  | 20 => ["self", "tick"]
  | 21 => ["self"]
  | 22 => ["self"]
  | 23 => ["self", "tick"]
  | 24 => ["self", "other"]
  | 25 => ["cell", "k"]
  | 26 => ["bag", "many"]
  | 27 => ["top", "bottom"]
  | 28 => ["bag"]
  | 29 => ["one", "two"]
  | 30 => ["one", "two"]
  | 31 => ["pairs"]
  | 32 => ["one", "two"]
  | 33 => ["pairs"]
  | 34 => ["pairs", "tick"]
  | 35 => ["one", "two"]
  | 36 => ["bag"]
  | 37 => ["script"]
  | _ => []
def lev : Nat → Nat
  | 0 => 0
  | 1 => 0
  | 2 => 1
  | 3 => 1
  | 4 => 2
  | 5 => 2
  | 6 => 3
  | 7 => 3
  | 8 => 3
  | 9 => 3
  | 10 => 3
  | 11 => 2
  | 12 => 1
  | 13 => 4
  | 14 => 0
  | 15 => 5
  | 16 => 5
  | 17 => 5
  | 18 => 5
  | 19 => 2
  | 20 => 6
  | 21 => 4
  | 22 => 0
  | 23 => 1
  | 24 => 0
  | 25 => 0
  | 26 => 0
  | 27 => 0
  | 28 => 1
  | 29 => 1
  | 30 => 1
  | 31 => 2
  | 32 => 3
  | 33 => 2
  | 34 => 7
  | 35 => 4
  | 36 => 8
  | 37 => 9
  | _ => 1000
def calls : Nat → List Nat
  | 0 => []
  | 1 => []
  | 2 => [1]
  | 3 => [0, 1]
  | 4 => [3]
  | 5 => [0, 2]
  | 6 => [2, 4]
  | 7 => [2, 4]
  | 8 => [2, 4]
  | 9 => [2, 4]
  | 10 => [4]
  | 11 => [0, 3]
  | 12 => [0]
  | 13 => [6, 11]
  | 14 => []
  | 15 => [13, 14]
  | 16 => [8, 13, 14]
  | 17 => [12, 13, 14]
  | 18 => [12, 13, 14]
  | 19 => [12]
  | 20 => [18, 21]
  | 21 => [6, 14]
  | 22 => []
  | 23 => [0]
  | 24 => []
  | 25 => []
  | 26 => []
  | 27 => []
  | 28 => [26, 27]
  | 29 => [27]
  | 30 => [27]
  | 31 => [29]
  | 32 => [30, 31]
  | 33 => [29]
  | 34 => [13, 14, 16, 17, 18, 19, 20, 21, 22, 23, 24, 31, 33]
  | 35 => [5, 6, 7, 8, 9, 10, 29, 30]
  | 36 => [13, 14, 15, 16, 24, 26, 28, 31, 32, 34, 35]
  | 37 => [25, 36]
  | _ => []
theorem lev_ok : ∀ i, i < 38 → ∀ c ∈ calls i, lev c < lev i := by decide +kernel
noncomputable def Fm (s : Nat) : Nat → List PD.Arg → LR := fun i => if lev i < s then F i else fun _ => .bad
theorem ok_0 {P : Program} {w : World} {K : PySem.W.Frag} {mg : Str → Option Value} {base : Heap} {cl f : Nat → Addr} {fd : Nat → FuncData} {Φ : Nat → List PD.Arg → LR} {j : Nat} (wd : Wd P w K mg base cl Φ tab j) (X : Txt K mg cl f fd) (hc : ∀ c ∈ calls 0, Φ c = F c) : FnOk P w K mg base (L2.CX P w) (j + 2) (f 0) (fd 0) (psn 0) (spL K cl (F 0)) :=
  fn_ck (fuel := 2 ^ 10000) wd X.d0 (by decide +kernel) ck_is_integer (fun as hb => by have hb : F_isint as ≠ .bad := hb; unfold F_isint at hb; (try unfold F_simpl at hb); (try unfold F_rr at hb); (try unfold F_rt at hb); (try unfold F_pp at hb); (try unfold F_ps at hb); (try unfold F_two at hb); refine dec_len ?_ as hb; exact fun _ => rfl) fun as _ => says_isint Φ _   as
theorem ok_1 {P : Program} {w : World} {K : PySem.W.Frag} {mg : Str → Option Value} {base : Heap} {cl f : Nat → Addr} {fd : Nat → FuncData} {Φ : Nat → List PD.Arg → LR} {j : Nat} (wd : Wd P w K mg base cl Φ tab j) (X : Txt K mg cl f fd) (hc : ∀ c ∈ calls 1, Φ c = F c) : FnOk P w K mg base (L2.CX P w) (j + 2) (f 1) (fd 1) (psn 1) (spL K cl (F 1)) :=
  fn_ck (fuel := 2 ^ 10000) wd X.d1 (by decide +kernel) ck_divisor_of (fun as hb => by have hb : F_gcd as ≠ .bad := hb; unfold F_gcd at hb; (try unfold F_simpl at hb); (try unfold F_rr at hb); (try unfold F_rt at hb); (try unfold F_pp at hb); (try unfold F_ps at hb); (try unfold F_two at hb); refine dec_len ?_ as hb; exact fun _ => rfl) fun as _ => says_gcd Φ   as
theorem ok_2 {P : Program} {w : World} {K : PySem.W.Frag} {mg : Str → Option Value} {base : Heap} {cl f : Nat → Addr} {fd : Nat → FuncData} {Φ : Nat → List PD.Arg → LR} {j : Nat} (wd : Wd P w K mg base cl Φ tab j) (X : Txt K mg cl f fd) (hc : ∀ c ∈ calls 2, Φ c = F c) : FnOk P w K mg base (L2.CX P w) (j + 2) (f 2) (fd 2) (psn 2) (spL K cl (F 2)) :=
  fn_ck (fuel := 2 ^ 10000) wd X.d2 (by decide +kernel) ck_simplified (fun as hb => by have hb : F_simpl as ≠ .bad := hb; unfold F_simpl at hb; (try unfold F_simpl at hb); (try unfold F_rr at hb); (try unfold F_rt at hb); (try unfold F_pp at hb); (try unfold F_ps at hb); (try unfold F_two at hb); refine dec_len ?_ as hb; exact fun _ => rfl) fun as _ => says_simpl Φ _ _ (hc 1 (by decide)) as
theorem ok_3 {P : Program} {w : World} {K : PySem.W.Frag} {mg : Str → Option Value} {base : Heap} {cl f : Nat → Addr} {fd : Nat → FuncData} {Φ : Nat → List PD.Arg → LR} {j : Nat} (wd : Wd P w K mg base cl Φ tab j) (X : Txt K mg cl f fd) (hc : ∀ c ∈ calls 3, Φ c = F c) : FnOk P w K mg base (L2.CX P w) (j + 2) (f 3) (fd 3) (psn 3) (spL K cl (F 3)) :=
  fn_ck (fuel := 2 ^ 10000) wd X.d3 (by decide +kernel) ck_is_fraction (fun as hb => by have hb : F_isfr as ≠ .bad := hb; unfold F_isfr at hb; (try unfold F_simpl at hb); (try unfold F_rr at hb); (try unfold F_rt at hb); (try unfold F_pp at hb); (try unfold F_ps at hb); (try unfold F_two at hb); refine dec_len ?_ as hb; exact fun _ => rfl) fun as _ => says_isfr Φ _ 1 _ _ (hc 0 (by decide)) (hc 1 (by decide)) as
theorem ok_4 {P : Program} {w : World} {K : PySem.W.Frag} {mg : Str → Option Value} {base : Heap} {cl f : Nat → Addr} {fd : Nat → FuncData} {Φ : Nat → List PD.Arg → LR} {j : Nat} (wd : Wd P w K mg base cl Φ tab j) (X : Txt K mg cl f fd) (hc : ∀ c ∈ calls 4, Φ c = F c) : FnOk P w K mg base (L2.CX P w) (j + 2) (f 4) (fd 4) (psn 4) (spL K cl (F 4)) :=
  fn_ck (fuel := 2 ^ 10000) wd X.d4 (by decide +kernel) ck_check_fractions (fun as hb => by have hb : F_chk as ≠ .bad := hb; unfold F_chk at hb; (try unfold F_simpl at hb); (try unfold F_rr at hb); (try unfold F_rt at hb); (try unfold F_pp at hb); (try unfold F_ps at hb); (try unfold F_two at hb); refine dec_len ?_ as hb; exact fun _ => rfl) fun as _ => says_chk Φ _ _ (hc 3 (by decide)) as
theorem ok_5 {P : Program} {w : World} {K : PySem.W.Frag} {mg : Str → Option Value} {base : Heap} {cl f : Nat → Addr} {fd : Nat → FuncData} {Φ : Nat → List PD.Arg → LR} {j : Nat} (wd : Wd P w K mg base cl Φ tab j) (X : Txt K mg cl f fd) (hc : ∀ c ∈ calls 5, Φ c = F c) : FnOk P w K mg base (L2.CX P w) (j + 2) (f 5) (fd 5) (psn 5) (spL K cl (F 5)) :=
  fn_ck (fuel := 2 ^ 10000) wd X.d5 (by decide +kernel) ck_fraction (fun as hb => by have hb : F_frac as ≠ .bad := hb; unfold F_frac at hb; (try unfold F_simpl at hb); (try unfold F_rr at hb); (try unfold F_rt at hb); (try unfold F_pp at hb); (try unfold F_ps at hb); (try unfold F_two at hb); refine dec_len ?_ as hb; exact fun _ => rfl) fun as _ => says_frac Φ _ _ _ (hc 0 (by decide)) (hc 2 (by decide)) as
theorem ok_6 {P : Program} {w : World} {K : PySem.W.Frag} {mg : Str → Option Value} {base : Heap} {cl f : Nat → Addr} {fd : Nat → FuncData} {Φ : Nat → List PD.Arg → LR} {j : Nat} (wd : Wd P w K mg base cl Φ tab j) (X : Txt K mg cl f fd) (hc : ∀ c ∈ calls 6, Φ c = F c) : FnOk P w K mg base (L2.CX P w) (j + 2) (f 6) (fd 6) (psn 6) (spL K cl (F 6)) :=
  fn_ck (fuel := 2 ^ 10000) wd X.d6 (by decide +kernel) ck_plus (fun as hb => by have hb : F_plus as ≠ .bad := hb; unfold F_plus at hb; (try unfold F_simpl at hb); (try unfold F_rr at hb); (try unfold F_rt at hb); (try unfold F_pp at hb); (try unfold F_ps at hb); (try unfold F_two at hb); refine dec_len ?_ as hb; exact fun _ => rfl) fun as _ => says_plus Φ _ _ _ (hc 4 (by decide)) (hc 2 (by decide)) as
theorem ok_7 {P : Program} {w : World} {K : PySem.W.Frag} {mg : Str → Option Value} {base : Heap} {cl f : Nat → Addr} {fd : Nat → FuncData} {Φ : Nat → List PD.Arg → LR} {j : Nat} (wd : Wd P w K mg base cl Φ tab j) (X : Txt K mg cl f fd) (hc : ∀ c ∈ calls 7, Φ c = F c) : FnOk P w K mg base (L2.CX P w) (j + 2) (f 7) (fd 7) (psn 7) (spL K cl (F 7)) :=
  fn_ck (fuel := 2 ^ 10000) wd X.d7 (by decide +kernel) ck_minus (fun as hb => by have hb : F_minus as ≠ .bad := hb; unfold F_minus at hb; (try unfold F_simpl at hb); (try unfold F_rr at hb); (try unfold F_rt at hb); (try unfold F_pp at hb); (try unfold F_ps at hb); (try unfold F_two at hb); refine dec_len ?_ as hb; exact fun _ => rfl) fun as _ => says_minus Φ _ _ _ (hc 4 (by decide)) (hc 2 (by decide)) as
theorem ok_8 {P : Program} {w : World} {K : PySem.W.Frag} {mg : Str → Option Value} {base : Heap} {cl f : Nat → Addr} {fd : Nat → FuncData} {Φ : Nat → List PD.Arg → LR} {j : Nat} (wd : Wd P w K mg base cl Φ tab j) (X : Txt K mg cl f fd) (hc : ∀ c ∈ calls 8, Φ c = F c) : FnOk P w K mg base (L2.CX P w) (j + 2) (f 8) (fd 8) (psn 8) (spL K cl (F 8)) :=
  fn_ck (fuel := 2 ^ 10000) wd X.d8 (by decide +kernel) ck_times (fun as hb => by have hb : F_times as ≠ .bad := hb; unfold F_times at hb; (try unfold F_simpl at hb); (try unfold F_rr at hb); (try unfold F_rt at hb); (try unfold F_pp at hb); (try unfold F_ps at hb); (try unfold F_two at hb); refine dec_len ?_ as hb; exact fun _ => rfl) fun as _ => says_times Φ _ _ _ (hc 4 (by decide)) (hc 2 (by decide)) as
theorem ok_9 {P : Program} {w : World} {K : PySem.W.Frag} {mg : Str → Option Value} {base : Heap} {cl f : Nat → Addr} {fd : Nat → FuncData} {Φ : Nat → List PD.Arg → LR} {j : Nat} (wd : Wd P w K mg base cl Φ tab j) (X : Txt K mg cl f fd) (hc : ∀ c ∈ calls 9, Φ c = F c) : FnOk P w K mg base (L2.CX P w) (j + 2) (f 9) (fd 9) (psn 9) (spL K cl (F 9)) :=
  fn_ck (fuel := 2 ^ 10000) wd X.d9 (by decide +kernel) ck_over (fun as hb => by have hb : F_over as ≠ .bad := hb; unfold F_over at hb; (try unfold F_simpl at hb); (try unfold F_rr at hb); (try unfold F_rt at hb); (try unfold F_pp at hb); (try unfold F_ps at hb); (try unfold F_two at hb); refine dec_len ?_ as hb; exact fun _ => rfl) fun as _ => says_over Φ _ _ _ (hc 4 (by decide)) (hc 2 (by decide)) as
theorem ok_10 {P : Program} {w : World} {K : PySem.W.Frag} {mg : Str → Option Value} {base : Heap} {cl f : Nat → Addr} {fd : Nat → FuncData} {Φ : Nat → List PD.Arg → LR} {j : Nat} (wd : Wd P w K mg base cl Φ tab j) (X : Txt K mg cl f fd) (hc : ∀ c ∈ calls 10, Φ c = F c) : FnOk P w K mg base (L2.CX P w) (j + 2) (f 10) (fd 10) (psn 10) (spL K cl (F 10)) :=
  fn_ck (fuel := 2 ^ 10000) wd X.d10 (by decide +kernel) ck_is_less (fun as hb => by have hb : F_less as ≠ .bad := hb; unfold F_less at hb; (try unfold F_simpl at hb); (try unfold F_rr at hb); (try unfold F_rt at hb); (try unfold F_pp at hb); (try unfold F_ps at hb); (try unfold F_two at hb); refine dec_len ?_ as hb; exact fun _ => rfl) fun as _ => says_less Φ _ _ (hc 4 (by decide)) as
theorem ok_11 {P : Program} {w : World} {K : PySem.W.Frag} {mg : Str → Option Value} {base : Heap} {cl f : Nat → Addr} {fd : Nat → FuncData} {Φ : Nat → List PD.Arg → LR} {j : Nat} (wd : Wd P w K mg base cl Φ tab j) (X : Txt K mg cl f fd) (hc : ∀ c ∈ calls 11, Φ c = F c) : FnOk P w K mg base (L2.CX P w) (j + 2) (f 11) (fd 11) (psn 11) (spL K cl (F 11)) :=
  fn_ck (fuel := 2 ^ 10000) wd X.d11 (by decide +kernel) ck_is_pair (fun as hb => by have hb : F_ispair as ≠ .bad := hb; unfold F_ispair at hb; (try unfold F_simpl at hb); (try unfold F_rr at hb); (try unfold F_rt at hb); (try unfold F_pp at hb); (try unfold F_ps at hb); (try unfold F_two at hb); refine dec_len ?_ as hb; exact fun _ => rfl) fun as _ => says_ispair Φ _ 1 _ _ (hc 0 (by decide)) (hc 3 (by decide)) as
theorem ok_12 {P : Program} {w : World} {K : PySem.W.Frag} {mg : Str → Option Value} {base : Heap} {cl f : Nat → Addr} {fd : Nat → FuncData} {Φ : Nat → List PD.Arg → LR} {j : Nat} (wd : Wd P w K mg base cl Φ tab j) (X : Txt K mg cl f fd) (hc : ∀ c ∈ calls 12, Φ c = F c) : FnOk P w K mg base (L2.CX P w) (j + 2) (f 12) (fd 12) (psn 12) (spL K cl (F 12)) :=
  fn_ck (fuel := 2 ^ 10000) wd X.d12 (by decide +kernel) ck_check_tick (fun as hb => by have hb : F_chkt as ≠ .bad := hb; unfold F_chkt at hb; (try unfold F_simpl at hb); (try unfold F_rr at hb); (try unfold F_rt at hb); (try unfold F_pp at hb); (try unfold F_ps at hb); (try unfold F_two at hb); refine dec_len ?_ as hb; exact fun _ => rfl) fun as _ => says_chkt Φ _ _ (hc 0 (by decide)) as
theorem ok_13 {P : Program} {w : World} {K : PySem.W.Frag} {mg : Str → Option Value} {base : Heap} {cl f : Nat → Addr} {fd : Nat → FuncData} {Φ : Nat → List PD.Arg → LR} {j : Nat} (wd : Wd P w K mg base cl Φ tab j) (X : Txt K mg cl f fd) (hc : ∀ c ∈ calls 13, Φ c = F c) : FnOk P w K mg base (L2.CX P w) (j + 2) (f 13) (fd 13) (psn 13) (spL K cl (F 13)) :=
  fn_ck (fuel := 2 ^ 10000) wd X.d13 (by decide +kernel) ck_Row___init (fun as hb => by have hb : F_init as ≠ .bad := hb; unfold F_init at hb; (try unfold F_simpl at hb); (try unfold F_rr at hb); (try unfold F_rt at hb); (try unfold F_pp at hb); (try unfold F_ps at hb); (try unfold F_two at hb); refine dec_len ?_ as hb; exact fun _ => rfl) fun as _ => says_init Φ _ 1 _ _ (hc 11 (by decide)) (hc 6 (by decide)) as
theorem ok_14 {P : Program} {w : World} {K : PySem.W.Frag} {mg : Str → Option Value} {base : Heap} {cl f : Nat → Addr} {fd : Nat → FuncData} {Φ : Nat → List PD.Arg → LR} {j : Nat} (wd : Wd P w K mg base cl Φ tab j) (X : Txt K mg cl f fd) (hc : ∀ c ∈ calls 14, Φ c = F c) : FnOk P w K mg base (L2.CX P w) (j + 2) (f 14) (fd 14) (psn 14) (spL K cl (F 14)) :=
  fn_ck (fuel := 2 ^ 10000) wd X.d14 (by decide +kernel) ck_Row_pairs (fun as hb => by have hb : F_pairs as ≠ .bad := hb; unfold F_pairs at hb; (try unfold F_simpl at hb); (try unfold F_rr at hb); (try unfold F_rt at hb); (try unfold F_pp at hb); (try unfold F_ps at hb); (try unfold F_two at hb); refine dec_len ?_ as hb; exact fun _ => rfl) fun as _ => says_pairs Φ _   as
theorem ok_15 {P : Program} {w : World} {K : PySem.W.Frag} {mg : Str → Option Value} {base : Heap} {cl f : Nat → Addr} {fd : Nat → FuncData} {Φ : Nat → List PD.Arg → LR} {j : Nat} (wd : Wd P w K mg base cl Φ tab j) (X : Txt K mg cl f fd) (hc : ∀ c ∈ calls 15, Φ c = F c) : FnOk P w K mg base (L2.CX P w) (j + 2) (f 15) (fd 15) (psn 15) (spL K cl (F 15)) :=
  fn_ck (fuel := 2 ^ 10000) wd X.d15 (by decide +kernel) ck_Row___add (fun as hb => by have hb : F_radd as ≠ .bad := hb; unfold F_radd at hb; (try unfold F_simpl at hb); (try unfold F_rr at hb); (try unfold F_rt at hb); (try unfold F_pp at hb); (try unfold F_ps at hb); (try unfold F_two at hb); refine dec_len ?_ as hb; exact fun _ => rfl) fun as _ => says_radd Φ _ _ _ (hc 14 (by decide)) (hc 13 (by decide)) as
theorem ok_16 {P : Program} {w : World} {K : PySem.W.Frag} {mg : Str → Option Value} {base : Heap} {cl f : Nat → Addr} {fd : Nat → FuncData} {Φ : Nat → List PD.Arg → LR} {j : Nat} (wd : Wd P w K mg base cl Φ tab j) (X : Txt K mg cl f fd) (hc : ∀ c ∈ calls 16, Φ c = F c) : FnOk P w K mg base (L2.CX P w) (j + 2) (f 16) (fd 16) (psn 16) (spL K cl (F 16)) :=
  fn_ck (fuel := 2 ^ 10000) wd X.d16 (by decide +kernel) ck_Row___mul (fun as hb => by have hb : F_rmul as ≠ .bad := hb; unfold F_rmul at hb; (try unfold F_simpl at hb); (try unfold F_rr at hb); (try unfold F_rt at hb); (try unfold F_pp at hb); (try unfold F_ps at hb); (try unfold F_two at hb); refine dec_len ?_ as hb; exact fun _ => rfl) fun as _ => says_rmul Φ _ _ _ _ (hc 14 (by decide)) (hc 13 (by decide)) (hc 8 (by decide)) as
theorem ok_17 {P : Program} {w : World} {K : PySem.W.Frag} {mg : Str → Option Value} {base : Heap} {cl f : Nat → Addr} {fd : Nat → FuncData} {Φ : Nat → List PD.Arg → LR} {j : Nat} (wd : Wd P w K mg base cl Φ tab j) (X : Txt K mg cl f fd) (hc : ∀ c ∈ calls 17, Φ c = F c) : FnOk P w K mg base (L2.CX P w) (j + 2) (f 17) (fd 17) (psn 17) (spL K cl (F 17)) :=
  fn_ck (fuel := 2 ^ 10000) wd X.d17 (by decide +kernel) ck_Row_moved (fun as hb => by have hb : F_moved as ≠ .bad := hb; unfold F_moved at hb; (try unfold F_simpl at hb); (try unfold F_rr at hb); (try unfold F_rt at hb); (try unfold F_pp at hb); (try unfold F_ps at hb); (try unfold F_two at hb); refine dec_len ?_ as hb; exact fun _ => rfl) fun as _ => says_moved Φ _ _ _ _ (hc 12 (by decide)) (hc 14 (by decide)) (hc 13 (by decide)) as
theorem ok_18 {P : Program} {w : World} {K : PySem.W.Frag} {mg : Str → Option Value} {base : Heap} {cl f : Nat → Addr} {fd : Nat → FuncData} {Φ : Nat → List PD.Arg → LR} {j : Nat} (wd : Wd P w K mg base cl Φ tab j) (X : Txt K mg cl f fd) (hc : ∀ c ∈ calls 18, Φ c = F c) : FnOk P w K mg base (L2.CX P w) (j + 2) (f 18) (fd 18) (psn 18) (spL K cl (F 18)) :=
  fn_ck (fuel := 2 ^ 10000) wd X.d18 (by decide +kernel) ck_Row_cut (fun as hb => by have hb : F_cut as ≠ .bad := hb; unfold F_cut at hb; (try unfold F_simpl at hb); (try unfold F_rr at hb); (try unfold F_rt at hb); (try unfold F_pp at hb); (try unfold F_ps at hb); (try unfold F_two at hb); refine dec_len ?_ as hb; exact fun _ => rfl) fun as _ => says_cut Φ _ _ _ _ (hc 12 (by decide)) (hc 14 (by decide)) (hc 13 (by decide)) as
theorem ok_19 {P : Program} {w : World} {K : PySem.W.Frag} {mg : Str → Option Value} {base : Heap} {cl f : Nat → Addr} {fd : Nat → FuncData} {Φ : Nat → List PD.Arg → LR} {j : Nat} (wd : Wd P w K mg base cl Φ tab j) (X : Txt K mg cl f fd) (hc : ∀ c ∈ calls 19, Φ c = F c) : FnOk P w K mg base (L2.CX P w) (j + 2) (f 19) (fd 19) (psn 19) (spL K cl (F 19)) :=
  fn_ck (fuel := 2 ^ 10000) wd X.d19 (by decide +kernel) ck_Row_at (fun as hb => by have hb : F_at as ≠ .bad := hb; unfold F_at at hb; (try unfold F_simpl at hb); (try unfold F_rr at hb); (try unfold F_rt at hb); (try unfold F_pp at hb); (try unfold F_ps at hb); (try unfold F_two at hb); refine dec_len ?_ as hb; exact fun _ => rfl) fun as _ => says_at Φ _ _ (hc 12 (by decide)) as
theorem ok_20 {P : Program} {w : World} {K : PySem.W.Frag} {mg : Str → Option Value} {base : Heap} {cl f : Nat → Addr} {fd : Nat → FuncData} {Φ : Nat → List PD.Arg → LR} {j : Nat} (wd : Wd P w K mg base cl Φ tab j) (X : Txt K mg cl f fd) (hc : ∀ c ∈ calls 20, Φ c = F c) : FnOk P w K mg base (L2.CX P w) (j + 2) (f 20) (fd 20) (psn 20) (spL K cl (F 20)) :=
  fn_ck (fuel := 2 ^ 10000) wd X.d20 (by decide +kernel) ck_Row_up_to (fun as hb => by have hb : F_upto as ≠ .bad := hb; unfold F_upto at hb; (try unfold F_simpl at hb); (try unfold F_rr at hb); (try unfold F_rt at hb); (try unfold F_pp at hb); (try unfold F_ps at hb); (try unfold F_two at hb); refine dec_len ?_ as hb; exact fun _ => rfl) fun as _ => says_upto Φ _ _ _ (hc 21 (by decide)) (hc 18 (by decide)) as
theorem ok_21 {P : Program} {w : World} {K : PySem.W.Frag} {mg : Str → Option Value} {base : Heap} {cl f : Nat → Addr} {fd : Nat → FuncData} {Φ : Nat → List PD.Arg → LR} {j : Nat} (wd : Wd P w K mg base cl Φ tab j) (X : Txt K mg cl f fd) (hc : ∀ c ∈ calls 21, Φ c = F c) : FnOk P w K mg base (L2.CX P w) (j + 2) (f 21) (fd 21) (psn 21) (spL K cl (F 21)) :=
  fn_ck (fuel := 2 ^ 10000) wd X.d21 (by decide +kernel) ck_Row_total (fun as hb => by have hb : F_tot as ≠ .bad := hb; unfold F_tot at hb; (try unfold F_simpl at hb); (try unfold F_rr at hb); (try unfold F_rt at hb); (try unfold F_pp at hb); (try unfold F_ps at hb); (try unfold F_two at hb); refine dec_len ?_ as hb; exact fun _ => rfl) fun as _ => says_tot Φ _ _ _ (hc 14 (by decide)) (hc 6 (by decide)) as
theorem ok_22 {P : Program} {w : World} {K : PySem.W.Frag} {mg : Str → Option Value} {base : Heap} {cl f : Nat → Addr} {fd : Nat → FuncData} {Φ : Nat → List PD.Arg → LR} {j : Nat} (wd : Wd P w K mg base cl Φ tab j) (X : Txt K mg cl f fd) (hc : ∀ c ∈ calls 22, Φ c = F c) : FnOk P w K mg base (L2.CX P w) (j + 2) (f 22) (fd 22) (psn 22) (spL K cl (F 22)) :=
  fn_ck (fuel := 2 ^ 10000) wd X.d22 (by decide +kernel) ck_Row___len (fun as hb => by have hb : F_rlen as ≠ .bad := hb; unfold F_rlen at hb; (try unfold F_simpl at hb); (try unfold F_rr at hb); (try unfold F_rt at hb); (try unfold F_pp at hb); (try unfold F_ps at hb); (try unfold F_two at hb); refine dec_len ?_ as hb; exact fun _ => rfl) fun as _ => says_rlen Φ _   as
theorem ok_23 {P : Program} {w : World} {K : PySem.W.Frag} {mg : Str → Option Value} {base : Heap} {cl f : Nat → Addr} {fd : Nat → FuncData} {Φ : Nat → List PD.Arg → LR} {j : Nat} (wd : Wd P w K mg base cl Φ tab j) (X : Txt K mg cl f fd) (hc : ∀ c ∈ calls 23, Φ c = F c) : FnOk P w K mg base (L2.CX P w) (j + 2) (f 23) (fd 23) (psn 23) (spL K cl (F 23)) :=
  fn_ck (fuel := 2 ^ 10000) wd X.d23 (by decide +kernel) ck_Row___contains (fun as hb => by have hb : F_rin as ≠ .bad := hb; unfold F_rin at hb; (try unfold F_simpl at hb); (try unfold F_rr at hb); (try unfold F_rt at hb); (try unfold F_pp at hb); (try unfold F_ps at hb); (try unfold F_two at hb); refine dec_len ?_ as hb; exact fun _ => rfl) fun as _ => says_rin Φ _ _ (hc 0 (by decide)) as
theorem ok_24 {P : Program} {w : World} {K : PySem.W.Frag} {mg : Str → Option Value} {base : Heap} {cl f : Nat → Addr} {fd : Nat → FuncData} {Φ : Nat → List PD.Arg → LR} {j : Nat} (wd : Wd P w K mg base cl Φ tab j) (X : Txt K mg cl f fd) (hc : ∀ c ∈ calls 24, Φ c = F c) : FnOk P w K mg base (L2.CX P w) (j + 2) (f 24) (fd 24) (psn 24) (spL K cl (F 24)) :=
  fn_ck (fuel := 2 ^ 10000) wd X.d24 (by decide +kernel) ck_Row___eq (fun as hb => by have hb : F_req as ≠ .bad := hb; unfold F_req at hb; (try unfold F_simpl at hb); (try unfold F_rr at hb); (try unfold F_rt at hb); (try unfold F_pp at hb); (try unfold F_ps at hb); (try unfold F_two at hb); refine dec_len ?_ as hb; exact fun _ => rfl) fun as _ => says_req Φ _   as
theorem ok_25 {P : Program} {w : World} {K : PySem.W.Frag} {mg : Str → Option Value} {base : Heap} {cl f : Nat → Addr} {fd : Nat → FuncData} {Φ : Nat → List PD.Arg → LR} {j : Nat} (wd : Wd P w K mg base cl Φ tab j) (X : Txt K mg cl f fd) (hc : ∀ c ∈ calls 25, Φ c = F c) : FnOk P w K mg base (L2.CX P w) (j + 2) (f 25) (fd 25) (psn 25) (spL K cl (F 25)) :=
  fn_ck (fuel := 2 ^ 10000) wd X.d25 (by decide +kernel) ck_law_bag (fun as hb => by have hb : F_bag as ≠ .bad := hb; unfold F_bag at hb; (try unfold F_simpl at hb); (try unfold F_rr at hb); (try unfold F_rt at hb); (try unfold F_pp at hb); (try unfold F_ps at hb); (try unfold F_two at hb); refine dec_len ?_ as hb; exact fun _ => rfl) fun as _ => says_bag Φ _   as
theorem ok_26 {P : Program} {w : World} {K : PySem.W.Frag} {mg : Str → Option Value} {base : Heap} {cl f : Nat → Addr} {fd : Nat → FuncData} {Φ : Nat → List PD.Arg → LR} {j : Nat} (wd : Wd P w K mg base cl Φ tab j) (X : Txt K mg cl f fd) (hc : ∀ c ∈ calls 26, Φ c = F c) : FnOk P w K mg base (L2.CX P w) (j + 2) (f 26) (fd 26) (psn 26) (spL K cl (F 26)) :=
  fn_ck (fuel := 2 ^ 10000) wd X.d26 (by decide +kernel) ck_law_draw (fun as hb => by have hb : F_draw as ≠ .bad := hb; unfold F_draw at hb; (try unfold F_simpl at hb); (try unfold F_rr at hb); (try unfold F_rt at hb); (try unfold F_pp at hb); (try unfold F_ps at hb); (try unfold F_two at hb); refine dec_len ?_ as hb; exact fun _ => rfl) fun as _ => says_draw Φ _   as
theorem ok_27 {P : Program} {w : World} {K : PySem.W.Frag} {mg : Str → Option Value} {base : Heap} {cl f : Nat → Addr} {fd : Nat → FuncData} {Φ : Nat → List PD.Arg → LR} {j : Nat} (wd : Wd P w K mg base cl Φ tab j) (X : Txt K mg cl f fd) (hc : ∀ c ∈ calls 27, Φ c = F c) : FnOk P w K mg base (L2.CX P w) (j + 2) (f 27) (fd 27) (psn 27) (spL K cl (F 27)) :=
  fn_ck (fuel := 2 ^ 10000) wd X.d27 (by decide +kernel) ck_law_low (fun as hb => by have hb : F_low as ≠ .bad := hb; unfold F_low at hb; (try unfold F_simpl at hb); (try unfold F_rr at hb); (try unfold F_rt at hb); (try unfold F_pp at hb); (try unfold F_ps at hb); (try unfold F_two at hb); refine dec_len ?_ as hb; exact fun _ => rfl) fun as _ => says_low Φ   as
theorem ok_28 {P : Program} {w : World} {K : PySem.W.Frag} {mg : Str → Option Value} {base : Heap} {cl f : Nat → Addr} {fd : Nat → FuncData} {Φ : Nat → List PD.Arg → LR} {j : Nat} (wd : Wd P w K mg base cl Φ tab j) (X : Txt K mg cl f fd) (hc : ∀ c ∈ calls 28, Φ c = F c) : FnOk P w K mg base (L2.CX P w) (j + 2) (f 28) (fd 28) (psn 28) (spL K cl (F 28)) :=
  fn_ck (fuel := 2 ^ 10000) wd X.d28 (by decide +kernel) ck_law_pairs (fun as hb => by have hb : F_lpr as ≠ .bad := hb; unfold F_lpr at hb; (try unfold F_simpl at hb); (try unfold F_rr at hb); (try unfold F_rt at hb); (try unfold F_pp at hb); (try unfold F_ps at hb); (try unfold F_two at hb); refine dec_len ?_ as hb; exact fun _ => rfl) fun as _ => says_lpr Φ _ _ _ (hc 26 (by decide)) (hc 27 (by decide)) as
theorem ok_29 {P : Program} {w : World} {K : PySem.W.Frag} {mg : Str → Option Value} {base : Heap} {cl f : Nat → Addr} {fd : Nat → FuncData} {Φ : Nat → List PD.Arg → LR} {j : Nat} (wd : Wd P w K mg base cl Φ tab j) (X : Txt K mg cl f fd) (hc : ∀ c ∈ calls 29, Φ c = F c) : FnOk P w K mg base (L2.CX P w) (j + 2) (f 29) (fd 29) (psn 29) (spL K cl (F 29)) :=
  fn_ck (fuel := 2 ^ 10000) wd X.d29 (by decide +kernel) ck_law_added (fun as hb => by have hb : F_ladd as ≠ .bad := hb; unfold F_ladd at hb; (try unfold F_simpl at hb); (try unfold F_rr at hb); (try unfold F_rt at hb); (try unfold F_pp at hb); (try unfold F_ps at hb); (try unfold F_two at hb); refine dec_len ?_ as hb; exact fun _ => rfl) fun as _ => says_ladd Φ _ _ (hc 27 (by decide)) as
theorem ok_30 {P : Program} {w : World} {K : PySem.W.Frag} {mg : Str → Option Value} {base : Heap} {cl f : Nat → Addr} {fd : Nat → FuncData} {Φ : Nat → List PD.Arg → LR} {j : Nat} (wd : Wd P w K mg base cl Φ tab j) (X : Txt K mg cl f fd) (hc : ∀ c ∈ calls 30, Φ c = F c) : FnOk P w K mg base (L2.CX P w) (j + 2) (f 30) (fd 30) (psn 30) (spL K cl (F 30)) :=
  fn_ck (fuel := 2 ^ 10000) wd X.d30 (by decide +kernel) ck_law_times (fun as hb => by have hb : F_ltim as ≠ .bad := hb; unfold F_ltim at hb; (try unfold F_simpl at hb); (try unfold F_rr at hb); (try unfold F_rt at hb); (try unfold F_pp at hb); (try unfold F_ps at hb); (try unfold F_two at hb); refine dec_len ?_ as hb; exact fun _ => rfl) fun as _ => says_ltim Φ _ _ (hc 27 (by decide)) as
theorem ok_31 {P : Program} {w : World} {K : PySem.W.Frag} {mg : Str → Option Value} {base : Heap} {cl f : Nat → Addr} {fd : Nat → FuncData} {Φ : Nat → List PD.Arg → LR} {j : Nat} (wd : Wd P w K mg base cl Φ tab j) (X : Txt K mg cl f fd) (hc : ∀ c ∈ calls 31, Φ c = F c) : FnOk P w K mg base (L2.CX P w) (j + 2) (f 31) (fd 31) (psn 31) (spL K cl (F 31)) :=
  fn_ck (fuel := 2 ^ 10000) wd X.d31 (by decide +kernel) ck_law_plain (fun as hb => by have hb : F_plain as ≠ .bad := hb; unfold F_plain at hb; (try unfold F_simpl at hb); (try unfold F_rr at hb); (try unfold F_rt at hb); (try unfold F_pp at hb); (try unfold F_ps at hb); (try unfold F_two at hb); refine dec_len ?_ as hb; exact fun _ => rfl) fun as _ => says_plain Φ _ _ (hc 29 (by decide)) as
theorem ok_32 {P : Program} {w : World} {K : PySem.W.Frag} {mg : Str → Option Value} {base : Heap} {cl f : Nat → Addr} {fd : Nat → FuncData} {Φ : Nat → List PD.Arg → LR} {j : Nat} (wd : Wd P w K mg base cl Φ tab j) (X : Txt K mg cl f fd) (hc : ∀ c ∈ calls 32, Φ c = F c) : FnOk P w K mg base (L2.CX P w) (j + 2) (f 32) (fd 32) (psn 32) (spL K cl (F 32)) :=
  fn_ck (fuel := 2 ^ 10000) wd X.d32 (by decide +kernel) ck_law_product (fun as hb => by have hb : F_prod as ≠ .bad := hb; unfold F_prod at hb; (try unfold F_simpl at hb); (try unfold F_rr at hb); (try unfold F_rt at hb); (try unfold F_pp at hb); (try unfold F_ps at hb); (try unfold F_two at hb); refine dec_len ?_ as hb; exact fun _ => rfl) fun as _ => says_prod Φ _ _ _ (hc 30 (by decide)) (hc 31 (by decide)) as
theorem ok_33 {P : Program} {w : World} {K : PySem.W.Frag} {mg : Str → Option Value} {base : Heap} {cl f : Nat → Addr} {fd : Nat → FuncData} {Φ : Nat → List PD.Arg → LR} {j : Nat} (wd : Wd P w K mg base cl Φ tab j) (X : Txt K mg cl f fd) (hc : ∀ c ∈ calls 33, Φ c = F c) : FnOk P w K mg base (L2.CX P w) (j + 2) (f 33) (fd 33) (psn 33) (spL K cl (F 33)) :=
  fn_ck (fuel := 2 ^ 10000) wd X.d33 (by decide +kernel) ck_law_sum (fun as hb => by have hb : F_lsum as ≠ .bad := hb; unfold F_lsum at hb; (try unfold F_simpl at hb); (try unfold F_rr at hb); (try unfold F_rt at hb); (try unfold F_pp at hb); (try unfold F_ps at hb); (try unfold F_two at hb); refine dec_len ?_ as hb; exact fun _ => rfl) fun as _ => says_lsum Φ _ _ (hc 29 (by decide)) as
theorem ok_34 {P : Program} {w : World} {K : PySem.W.Frag} {mg : Str → Option Value} {base : Heap} {cl f : Nat → Addr} {fd : Nat → FuncData} {Φ : Nat → List PD.Arg → LR} {j : Nat} (wd : Wd P w K mg base cl Φ tab j) (X : Txt K mg cl f fd) (hc : ∀ c ∈ calls 34, Φ c = F c) : FnOk P w K mg base (L2.CX P w) (j + 2) (f 34) (fd 34) (psn 34) (spL K cl (F 34)) :=
  fn_ck (fuel := 2 ^ 10000) wd X.d34 (by decide +kernel) ck_law_one_right (fun as hb => by have hb : F_lone as ≠ .bad := hb; unfold F_lone at hb; (try unfold F_simpl at hb); (try unfold F_rr at hb); (try unfold F_rt at hb); (try unfold F_pp at hb); (try unfold F_ps at hb); (try unfold F_two at hb); refine dec_len ?_ as hb; exact fun _ => rfl) fun as _ => says_lone Φ _ _ _ _ _ _ _ _ _ _ _ _ _ _ (hc 13 (by decide)) (hc 31 (by decide)) (hc 14 (by decide)) (hc 22 (by decide)) (hc 21 (by decide)) (hc 33 (by decide)) (hc 17 (by decide)) (hc 16 (by decide)) (hc 18 (by decide)) (hc 20 (by decide)) (hc 19 (by decide)) (hc 23 (by decide)) (hc 24 (by decide)) as
theorem ok_35 {P : Program} {w : World} {K : PySem.W.Frag} {mg : Str → Option Value} {base : Heap} {cl f : Nat → Addr} {fd : Nat → FuncData} {Φ : Nat → List PD.Arg → LR} {j : Nat} (wd : Wd P w K mg base cl Φ tab j) (X : Txt K mg cl f fd) (hc : ∀ c ∈ calls 35, Φ c = F c) : FnOk P w K mg base (L2.CX P w) (j + 2) (f 35) (fd 35) (psn 35) (spL K cl (F 35)) :=
  fn_ck (fuel := 2 ^ 10000) wd X.d35 (by decide +kernel) ck_law_fractions_right (fun as hb => by have hb : F_lfr as ≠ .bad := hb; unfold F_lfr at hb; (try unfold F_simpl at hb); (try unfold F_rr at hb); (try unfold F_rt at hb); (try unfold F_pp at hb); (try unfold F_ps at hb); (try unfold F_two at hb); refine dec_len ?_ as hb; exact fun _ => rfl) fun as _ => says_lfr Φ _ _ _ _ _ _ _ _ _ (hc 6 (by decide)) (hc 29 (by decide)) (hc 8 (by decide)) (hc 30 (by decide)) (hc 7 (by decide)) (hc 5 (by decide)) (hc 10 (by decide)) (hc 9 (by decide)) as
theorem ok_36 {P : Program} {w : World} {K : PySem.W.Frag} {mg : Str → Option Value} {base : Heap} {cl f : Nat → Addr} {fd : Nat → FuncData} {Φ : Nat → List PD.Arg → LR} {j : Nat} (wd : Wd P w K mg base cl Φ tab j) (X : Txt K mg cl f fd) (hc : ∀ c ∈ calls 36, Φ c = F c) : FnOk P w K mg base (L2.CX P w) (j + 2) (f 36) (fd 36) (psn 36) (spL K cl (F 36)) :=
  fn_ck (fuel := 2 ^ 10000) wd X.d36 (by decide +kernel) ck_law_right (fun as hb => by have hb : F_lright as ≠ .bad := hb; unfold F_lright at hb; (try unfold F_simpl at hb); (try unfold F_rr at hb); (try unfold F_rt at hb); (try unfold F_pp at hb); (try unfold F_ps at hb); (try unfold F_two at hb); refine dec_len ?_ as hb; exact fun _ => rfl) fun as _ => says_lright Φ _ _ _ _ _ _ _ _ _ _ _ _ (hc 28 (by decide)) (hc 26 (by decide)) (hc 34 (by decide)) (hc 32 (by decide)) (hc 13 (by decide)) (hc 14 (by decide)) (hc 15 (by decide)) (hc 16 (by decide)) (hc 31 (by decide)) (hc 24 (by decide)) (hc 35 (by decide)) as
theorem ok_37 {P : Program} {w : World} {K : PySem.W.Frag} {mg : Str → Option Value} {base : Heap} {cl f : Nat → Addr} {fd : Nat → FuncData} {Φ : Nat → List PD.Arg → LR} {j : Nat} (wd : Wd P w K mg base cl Φ tab j) (X : Txt K mg cl f fd) (hc : ∀ c ∈ calls 37, Φ c = F c) : FnOk P w K mg base (L2.CX P w) (j + 2) (f 37) (fd 37) (psn 37) (spL K cl (F 37)) :=
  fn_ck (fuel := 2 ^ 10000) wd X.d37 (by decide +kernel) ck_law (fun as hb => by have hb : F_law as ≠ .bad := hb; unfold F_law at hb; (try unfold F_simpl at hb); (try unfold F_rr at hb); (try unfold F_rt at hb); (try unfold F_pp at hb); (try unfold F_ps at hb); (try unfold F_two at hb); refine dec_len ?_ as hb; exact fun _ => rfl) fun as _ => says_law Φ _ _ _ (hc 25 (by decide)) (hc 36 (by decide)) as
theorem fn_bad {P : Program} {w : World} {K : PySem.W.Frag} {mg : Str → Option Value} {base : Heap} {cl f : Nat → Addr} {fd : Nat → FuncData} {g : Addr} {gd : FuncData} {j : Nat} {ps : List Str} : FnOk P w K mg base (L2.CX P w) j g gd ps (spL K cl fun _ => .bad) := ⟨fun _ _ _ _ ⟨_, _, _, _, _, _, h⟩ => h.elim, fun _ _ _ _ _ _ _ _ _ _ _ _ _ ⟨_, _, _, _, _, _, h⟩ => h.elim⟩
theorem ok_all {P : Program} {w : World} {K : PySem.W.Frag} {mg : Str → Option Value} {base : Heap} {cl f : Nat → Addr} {fd : Nat → FuncData} {Φ : Nat → List PD.Arg → LR} {j : Nat} (wd : Wd P w K mg base cl Φ tab j) (X : Txt K mg cl f fd) : ∀ i, i < 38 → (∀ c ∈ calls i, Φ c = F c) → FnOk P w K mg base (L2.CX P w) (j + 2) (f i) (fd i) (psn i) (spL K cl (F i))
  | 0, _, hc => ok_0 wd X hc
  | 1, _, hc => ok_1 wd X hc
  | 2, _, hc => ok_2 wd X hc
  | 3, _, hc => ok_3 wd X hc
  | 4, _, hc => ok_4 wd X hc
  | 5, _, hc => ok_5 wd X hc
  | 6, _, hc => ok_6 wd X hc
  | 7, _, hc => ok_7 wd X hc
  | 8, _, hc => ok_8 wd X hc
  | 9, _, hc => ok_9 wd X hc
  | 10, _, hc => ok_10 wd X hc
  | 11, _, hc => ok_11 wd X hc
  | 12, _, hc => ok_12 wd X hc
  | 13, _, hc => ok_13 wd X hc
  | 14, _, hc => ok_14 wd X hc
  | 15, _, hc => ok_15 wd X hc
  | 16, _, hc => ok_16 wd X hc
  | 17, _, hc => ok_17 wd X hc
  | 18, _, hc => ok_18 wd X hc
  | 19, _, hc => ok_19 wd X hc
  | 20, _, hc => ok_20 wd X hc
  | 21, _, hc => ok_21 wd X hc
  | 22, _, hc => ok_22 wd X hc
  | 23, _, hc => ok_23 wd X hc
  | 24, _, hc => ok_24 wd X hc
  | 25, _, hc => ok_25 wd X hc
  | 26, _, hc => ok_26 wd X hc
  | 27, _, hc => ok_27 wd X hc
  | 28, _, hc => ok_28 wd X hc
  | 29, _, hc => ok_29 wd X hc
  | 30, _, hc => ok_30 wd X hc
  | 31, _, hc => ok_31 wd X hc
  | 32, _, hc => ok_32 wd X hc
  | 33, _, hc => ok_33 wd X hc
  | 34, _, hc => ok_34 wd X hc
  | 35, _, hc => ok_35 wd X hc
  | 36, _, hc => ok_36 wd X hc
  | 37, _, hc => ok_37 wd X hc
  | k + 38, h, _ => absurd h (by omega)
theorem all_nil {α : Type} {p : α → Prop} : ∀ x ∈ ([] : List α), p x := fun _ h => by cases h
theorem all_cons {α : Type} {p : α → Prop} {a : α} {l : List α} (h : p a) (k : ∀ x ∈ l, p x) : ∀ x ∈ a :: l, p x := fun x hx => (List.mem_cons.mp hx).elim (fun e => e ▸ h) (k x)
theorem wd_of {P : Program} {w : World} {K : PySem.W.Frag} {mg : Str → Option Value} {base : Heap} {cl f : Nat → Addr} {fd : Nat → FuncData} {Φ : Nat → List PD.Arg → LR} {j : Nat} (X : Txt K mg cl f fd) (h : ∀ i, i < 38 → FnOk P w K mg base (L2.CX P w) j (f i) (fd i) (psn i) (spL K cl (Φ i))) : Wd P w K mg base cl Φ tab j where
  fn := all_cons (⟨f 29, fd 29, psn 29, [], [], h 29 (by decide), X.m29, X.k29, X.b29, .nil, fun _ => rfl, rfl⟩) (all_cons (⟨f 25, fd 25, psn 25, [], [], h 25 (by decide), X.m25, X.k25, X.b25, .nil, fun _ => rfl, rfl⟩) (all_cons (⟨f 26, fd 26, psn 26, [], [], h 26 (by decide), X.m26, X.k26, X.b26, .nil, fun _ => rfl, rfl⟩) (all_cons (⟨f 35, fd 35, psn 35, [], [], h 35 (by decide), X.m35, X.k35, X.b35, .nil, fun _ => rfl, rfl⟩) (all_cons (⟨f 27, fd 27, psn 27, [], [], h 27 (by decide), X.m27, X.k27, X.b27, .nil, fun _ => rfl, rfl⟩) (all_cons (⟨f 34, fd 34, psn 34, [], [], h 34 (by decide), X.m34, X.k34, X.b34, .nil, fun _ => rfl, rfl⟩) (all_cons (⟨f 28, fd 28, psn 28, [], [], h 28 (by decide), X.m28, X.k28, X.b28, .nil, fun _ => rfl, rfl⟩) (all_cons (⟨f 31, fd 31, psn 31, [], [], h 31 (by decide), X.m31, X.k31, X.b31, .nil, fun _ => rfl, rfl⟩) (all_cons (⟨f 32, fd 32, psn 32, [], [], h 32 (by decide), X.m32, X.k32, X.b32, .nil, fun _ => rfl, rfl⟩) (all_cons (⟨f 36, fd 36, psn 36, [], [], h 36 (by decide), X.m36, X.k36, X.b36, .nil, fun _ => rfl, rfl⟩) (all_cons (⟨f 33, fd 33, psn 33, [], [], h 33 (by decide), X.m33, X.k33, X.b33, .nil, fun _ => rfl, rfl⟩) (all_cons (⟨f 30, fd 30, psn 30, [], [], h 30 (by decide), X.m30, X.k30, X.b30, .nil, fun _ => rfl, rfl⟩) (all_cons (⟨f 4, fd 4, psn 4, [], [], h 4 (by decide), X.m4, X.k4, X.b4, .nil, fun _ => rfl, rfl⟩) (all_cons (⟨f 12, fd 12, psn 12, [], [], h 12 (by decide), X.m12, X.k12, X.b12, .nil, fun _ => rfl, rfl⟩) (all_cons (⟨f 1, fd 1, psn 1, [], [], h 1 (by decide), X.m1, X.k1, X.b1, .nil, fun _ => rfl, rfl⟩) (all_cons (let ⟨ds, v, b⟩ := X.b5.2; ⟨f 5, fd 5, psn 5, ds, [], h 5 (by decide), X.m5, X.k5, b, v, fun _ => rfl, rfl⟩) (all_cons (⟨f 3, fd 3, psn 3, [], [], h 3 (by decide), X.m3, X.k3, X.b3, .nil, fun _ => rfl, rfl⟩) (all_cons (let ⟨ds, v, b⟩ := X.b0.1; ⟨f 0, fd 0, psn 0, ds, [.non, .non], h 0 (by decide), X.m0, X.k0, b, v, fun _ => ⟨_, _, rfl, rfl, ⟨_, _, rfl, rfl, rfl⟩⟩, rfl⟩) (all_cons (let ⟨ds, v, b⟩ := X.b0.2.1; ⟨f 0, fd 0, psn 0, ds, [.non], h 0 (by decide), X.m0, X.k0, b, v, fun _ => ⟨_, _, rfl, rfl, rfl⟩, rfl⟩) (all_cons (⟨f 10, fd 10, psn 10, [], [], h 10 (by decide), X.m10, X.k10, X.b10, .nil, fun _ => rfl, rfl⟩) (all_cons (⟨f 11, fd 11, psn 11, [], [], h 11 (by decide), X.m11, X.k11, X.b11, .nil, fun _ => rfl, rfl⟩) (all_cons (⟨f 7, fd 7, psn 7, [], [], h 7 (by decide), X.m7, X.k7, X.b7, .nil, fun _ => rfl, rfl⟩) (all_cons (⟨f 9, fd 9, psn 9, [], [], h 9 (by decide), X.m9, X.k9, X.b9, .nil, fun _ => rfl, rfl⟩) (all_cons (⟨f 6, fd 6, psn 6, [], [], h 6 (by decide), X.m6, X.k6, X.b6, .nil, fun _ => rfl, rfl⟩) (all_cons (⟨f 2, fd 2, psn 2, [], [], h 2 (by decide), X.m2, X.k2, X.b2, .nil, fun _ => rfl, rfl⟩) (all_cons (⟨f 8, fd 8, psn 8, [], [], h 8 (by decide), X.m8, X.k8, X.b8, .nil, fun _ => rfl, rfl⟩) (all_nil))))))))))))))))))))))))))
  mkr := all_cons (let ⟨e, hb⟩ := X.b13; let ⟨ds, v, b⟩ := hb.2; ⟨f 13, fd 13, psn 13, ds, [], ⟨X.mk0, X.a13, X.i13, X.kc0⟩, h 13 (by decide), X.q0, b, v, fun _ => rfl, rfl⟩) (all_nil)
  mt := all_cons (⟨f 19, fd 19, psn 19, X.cls0.cls, ⟨X.a19, X.i19, X.k19⟩, h 19 (by decide), X.b19⟩) (all_cons (⟨f 18, fd 18, psn 18, X.cls0.cls, ⟨X.a18, X.i18, X.k18⟩, h 18 (by decide), X.b18⟩) (all_cons (⟨f 17, fd 17, psn 17, X.cls0.cls, ⟨X.a17, X.i17, X.k17⟩, h 17 (by decide), X.b17⟩) (all_cons (⟨f 14, fd 14, psn 14, X.cls0.cls, ⟨X.a14, X.i14, X.k14⟩, h 14 (by decide), X.b14⟩) (all_cons (⟨f 21, fd 21, psn 21, X.cls0.cls, ⟨X.a21, X.i21, X.k21⟩, h 21 (by decide), X.b21⟩) (all_cons (⟨f 20, fd 20, psn 20, X.cls0.cls, ⟨X.a20, X.i20, X.k20⟩, h 20 (by decide), X.b20⟩) (all_nil))))))
  op := all_cons (⟨f 15, fd 15, psn 15, X.sf0, X.a15, X.i15, h 15 (by decide), X.b15⟩) (all_cons (⟨f 16, fd 16, psn 16, X.sf0, X.a16, X.i16, h 16 (by decide), X.b16⟩) (all_nil))
  eq := all_cons (⟨f 24, fd 24, psn 24, X.a24, X.i24, h 24 (by decide), X.b24⟩) (all_nil)
  ne := all_cons (⟨f 24, fd 24, psn 24, X.ne0, X.hm0, X.a24, X.i24, h 24 (by decide), X.b24⟩) (all_nil)
  isin := all_cons (⟨f 23, fd 23, psn 23, X.a23, X.i23, h 23 (by decide), X.b23⟩) (all_nil)
  len := all_cons (⟨f 22, fd 22, psn 22, X.a22, X.i22, h 22 (by decide), X.b22⟩) (all_nil)
  fl := all_cons (⟨X.cls0.cls, X.na0_shares⟩) (all_nil)
  cs := all_cons (⟨X.q0, rfl⟩) (all_nil)
  gl := all_nil
  bl := all_cons (X.z_abs) (all_cons (X.z_all) (all_cons (X.z_bool) (all_cons (X.z_int) (all_cons (X.z_isinstance) (all_cons (X.z_len) (all_cons (X.z_list) (all_cons (X.z_range) (all_cons (X.z_sorted) (all_cons (X.z_tuple) (all_nil))))))))))
  ic := fun c hc => match c, hc with
    | 0, _ => X.cls0
    | k + 1, hc => absurd hc (show ¬ k + 1 < 1 by omega)
  kit := all_cons (X.kit _ (all_cons (show 0 < 1 by decide) (all_nil))) (all_cons (X.kit _ (all_cons (trivial) (all_nil))) (all_cons (X.kit _ (all_cons (trivial) (all_nil))) (all_cons (X.kit _ (all_cons (trivial) (all_cons (trivial) (all_nil)))) (all_cons (X.kit _ (all_cons (trivial) (all_nil))) (all_nil)))))
theorem stage {P : Program} {w : World} {K : PySem.W.Frag} {mg : Str → Option Value} {base : Heap} {cl f : Nat → Addr} {fd : Nat → FuncData} (X : Txt K mg cl f fd) : ∀ s i, i < 38 → FnOk P w K mg base (L2.CX P w) (2 * s) (f i) (fd i) (psn i) (spL K cl (Fm s i))
  | 0, i, _ => by
    have e : Fm 0 i = fun _ => .bad := if_neg (Nat.not_lt_zero _)
    rw [e]
    exact fn_bad (f := f) (fd := fd)
  | s + 1, i, hi => by
    have ih := stage (P := P) (w := w) (base := base) X s
    have wd := wd_of X ih
    by_cases c1 : lev i < s
    · have e1 : Fm (s + 1) i = F i := if_pos (by omega)
      have e2 : Fm s i = F i := if_pos c1
      have := ih i hi
      rw [e2] at this
      rw [e1]
      exact this.mono (by omega)
    · by_cases c2 : lev i = s
      · have e1 : Fm (s + 1) i = F i := if_pos (by omega)
        rw [e1]
        exact ok_all wd X i hi fun c hc => if_pos (by have := lev_ok i hi c hc; omega)
      · have e1 : Fm (s + 1) i = fun _ => .bad := if_neg (by omega)
        rw [e1]
        exact fn_bad (f := f) (fd := fd)
theorem fin {P : Program} {w : World} {K : PySem.W.Frag} {mg : Str → Option Value} {fa : Addr} (hx : ∃ (cl f : Nat → Addr) (fd : Nat → FuncData), f 37 = fa ∧ (∀ (s : Shared) (v : Value), BindsTo s (fd 37) ⟨[v], []⟩ [("script", v)]) ∧ Txt K mg cl f fd) :
    ∃ (cl : Nat → Addr) (fd : FuncData), (∀ (s : Shared) (u : Value), BindsTo s fd ⟨[u], []⟩ [("script", u)]) ∧ ∀ base : Heap, K.In base → base.Ns mainGlobals mg → L2.FnOk P w K mg base (L2.CX P w) 20 fa fd ["script"] (PD.spL K cl F_law) := by
  obtain ⟨cl, f, fd, rfl, hb, X⟩ := hx
  refine ⟨cl, fd 37, hb, fun base _ _ => ?_⟩
  have h := stage (P := P) (w := w) (base := base) X 10 37 (by decide)
  have e : Fm 10 37 = F 37 := if_pos (by decide)
  rw [e] at h
  exact h
end K86
open PySem PySem.W PyProof.Rows
set_option maxRecDepth 100000 in
set_option maxHeartbeats 0 in
theorem PySem.Challenge.cw_prepaidplans_k86_whole_row_algebra_holds : PySem.Challenge.rw_prepaidplans_k86_whole_row_algebra.Holds := by
  w_on; o_law; k_head; (case hw => w_witness2)
  k_fill
  refine PD.walk_pd (l := PySem.Challenge.rw_prepaidplans_k86_whole_row_algebra) (k := 20) (Fn := PD.F_law) rfl rfl ⟨rfl, by decide, by decide⟩ (fun w h Y => PySem.W.kIn_of Y) (fun ns h => PD.F_law_eq h) ?F
  case F =>
    intro w mg fa h KX G hmg
    refine K86.fin ?_
    refine' K86.gather KX G hmg ?q0 ?pg0 ?hd0 ?po0 ?sa0 ?ha0 ?hn0 ?ht0 ?hm0 ?mk0 ?kc0 ?sf0 ?ne0 ?na0_shares ?a0 ?l0 ?c0 ?k0 ?lT0 ?a1 ?l1 ?c1 ?k1 ?a2 ?l2 ?c2 ?k2 ?a3 ?l3 ?c3 ?k3 ?a4 ?l4 ?c4 ?k4 ?a5 ?l5 ?c5 ?k5 ?lT5 ?a6 ?l6 ?c6 ?k6 ?a7 ?l7 ?c7 ?k7 ?a8 ?l8 ?c8 ?k8 ?a9 ?l9 ?c9 ?k9 ?a10 ?l10 ?c10 ?k10 ?a11 ?l11 ?c11 ?k11 ?a12 ?l12 ?c12 ?k12 ?a13 ?i13 ?l13 ?c13 ?k13 ?lT13 ?a14 ?i14 ?l14 ?c14 ?k14 ?a15 ?i15 ?l15 ?c15 ?k15 ?a16 ?i16 ?l16 ?c16 ?k16 ?a17 ?i17 ?l17 ?c17 ?k17 ?a18 ?i18 ?l18 ?c18 ?k18 ?a19 ?i19 ?l19 ?c19 ?k19 ?a20 ?i20 ?l20 ?c20 ?k20 ?a21 ?i21 ?l21 ?c21 ?k21 ?a22 ?i22 ?l22 ?c22 ?k22 ?a23 ?i23 ?l23 ?c23 ?k23 ?a24 ?i24 ?l24 ?c24 ?k24 ?a25 ?l25 ?c25 ?k25 ?a26 ?l26 ?c26 ?k26 ?a27 ?l27 ?c27 ?k27 ?a28 ?l28 ?c28 ?k28 ?a29 ?l29 ?c29 ?k29 ?a30 ?l30 ?c30 ?k30 ?a31 ?l31 ?c31 ?k31 ?a32 ?l32 ?c32 ?k32 ?a33 ?l33 ?c33 ?k33 ?a34 ?l34 ?c34 ?k34 ?a35 ?l35 ?c35 ?k35 ?a36 ?l36 ?c36 ?k36 ?a37 ?l37 ?c37 ?k37 ?z_abs ?z_all ?z_bool ?z_int ?z_isinstance ?z_len ?z_list ?z_range ?z_sorted ?z_tuple ?ic0 ?ty0 ?u0_0 ?u0_1 ?u0_2 ?u0_3 ?u0_4 ?u0_5 ?u0_6 ?v0_0 ?v0_1 ?v0_2 ?v0_3 ?v0_4 ?v0_5 ?v0_6
    (case q0 => k_is); (case pg0 => k_is); (case hd0 => k_is); (case po0 => k_is); (case sa0 => k_is); (case ha0 => k_is); (case hn0 => k_is); (case ht0 => k_is)
    (case hm0 => k_is); (case mk0 => k_is); (case kc0 => k_is); (case sf0 => k_is); (case ne0 => k_is); (case na0_shares => k_is); (case a0 => k_is); (case l0 => k_is)
    (case c0 => k_is); (case k0 => k_is); (case lT0 => k_is); (case a1 => k_is); (case l1 => k_is); (case c1 => k_is); (case k1 => k_is); (case a2 => k_is)
    (case l2 => k_is); (case c2 => k_is); (case k2 => k_is); (case a3 => k_is); (case l3 => k_is); (case c3 => k_is); (case k3 => k_is); (case a4 => k_is)
    (case l4 => k_is); (case c4 => k_is); (case k4 => k_is); (case a5 => k_is); (case l5 => k_is); (case c5 => k_is); (case k5 => k_is); (case lT5 => k_is)
    (case a6 => k_is); (case l6 => k_is); (case c6 => k_is); (case k6 => k_is); (case a7 => k_is); (case l7 => k_is); (case c7 => k_is); (case k7 => k_is)
    (case a8 => k_is); (case l8 => k_is); (case c8 => k_is); (case k8 => k_is); (case a9 => k_is); (case l9 => k_is); (case c9 => k_is); (case k9 => k_is)
    (case a10 => k_is); (case l10 => k_is); (case c10 => k_is); (case k10 => k_is); (case a11 => k_is); (case l11 => k_is); (case c11 => k_is); (case k11 => k_is)
    (case a12 => k_is); (case l12 => k_is); (case c12 => k_is); (case k12 => k_is); (case a13 => k_is); (case i13 => k_is); (case l13 => k_is); (case c13 => k_is)
    (case k13 => k_is); (case lT13 => k_is); (case a14 => k_is); (case i14 => k_is); (case l14 => k_is); (case c14 => k_is); (case k14 => k_is); (case a15 => k_is)
    (case i15 => k_is); (case l15 => k_is); (case c15 => k_is); (case k15 => k_is); (case a16 => k_is); (case i16 => k_is); (case l16 => k_is); (case c16 => k_is)
    (case k16 => k_is); (case a17 => k_is); (case i17 => k_is); (case l17 => k_is); (case c17 => k_is); (case k17 => k_is); (case a18 => k_is); (case i18 => k_is)
    (case l18 => k_is); (case c18 => k_is); (case k18 => k_is); (case a19 => k_is); (case i19 => k_is); (case l19 => k_is); (case c19 => k_is); (case k19 => k_is)
    (case a20 => k_is); (case i20 => k_is); (case l20 => k_is); (case c20 => k_is); (case k20 => k_is); (case a21 => k_is); (case i21 => k_is); (case l21 => k_is)
    (case c21 => k_is); (case k21 => k_is); (case a22 => k_is); (case i22 => k_is); (case l22 => k_is); (case c22 => k_is); (case k22 => k_is); (case a23 => k_is)
    (case i23 => k_is); (case l23 => k_is); (case c23 => k_is); (case k23 => k_is); (case a24 => k_is); (case i24 => k_is); (case l24 => k_is); (case c24 => k_is)
    (case k24 => k_is); (case a25 => k_is); (case l25 => k_is); (case c25 => k_is); (case k25 => k_is); (case a26 => k_is); (case l26 => k_is); (case c26 => k_is)
    (case k26 => k_is); (case a27 => k_is); (case l27 => k_is); (case c27 => k_is); (case k27 => k_is); (case a28 => k_is); (case l28 => k_is); (case c28 => k_is)
    (case k28 => k_is); (case a29 => k_is); (case l29 => k_is); (case c29 => k_is); (case k29 => k_is); (case a30 => k_is); (case l30 => k_is); (case c30 => k_is)
    (case k30 => k_is); (case a31 => k_is); (case l31 => k_is); (case c31 => k_is); (case k31 => k_is); (case a32 => k_is); (case l32 => k_is); (case c32 => k_is)
    (case k32 => k_is); (case a33 => k_is); (case l33 => k_is); (case c33 => k_is); (case k33 => k_is); (case a34 => k_is); (case l34 => k_is); (case c34 => k_is)
    (case k34 => k_is); (case a35 => k_is); (case l35 => k_is); (case c35 => k_is); (case k35 => k_is); (case a36 => k_is); (case l36 => k_is); (case c36 => k_is)
    (case k36 => k_is); (case a37 => k_is); (case l37 => k_is); (case c37 => k_is); (case k37 => k_is); (case z_abs => k_is); (case z_all => k_is); (case z_bool => k_is)
    (case z_int => k_is); (case z_isinstance => k_is); (case z_len => k_is); (case z_list => k_is); (case z_range => k_is); (case z_sorted => k_is); (case z_tuple => k_is); (case ic0 => k_is)
    (case ty0 => k_is); (case u0_0 => k_is); (case u0_1 => k_is); (case u0_2 => k_is); (case u0_3 => k_is); (case u0_4 => k_is); (case u0_5 => k_is); (case u0_6 => k_is)
    (case v0_0 => k_is); (case v0_1 => k_is); (case v0_2 => k_is); (case v0_3 => k_is); (case v0_4 => k_is); (case v0_5 => k_is); (case v0_6 => k_is)
