import PyProof.Rows.All
import Wide.All
import OpenK.AllK
import Wide.FinOn
import HandS.ForMost
import KE.KDictKeyed
import KE.KDictWalk
import KE.KDictDisplayH
import HandS.More
import HandS.OwnEq
import HandS.DictComp
import HandS.MapJoin
import HandS.RevTup
import KE.KEqNest
import PyProof.NeKinds
import HandS.IsInst
import HandS.Defaults
import HandS.CallLocal
import HandS.Walk
import HandS.NoneIn
import HandS.TryOnly
import HandS.WordsExc
import HandS.Exc
import HandS.ExcOwn
import HandS.ExcIs
import HandS.Flow
import HandS.Codes
import HandS.Zip
import PySem.Challenge.RW_lightturns_k29_whole_kinds_together
set_option Elab.async false
set_option linter.all false
set_option maxRecDepth 100000
set_option maxHeartbeats 8000000
/-! KwMath: plain mathematics: deterministic walks over letters, what goes on for ever, words in order, lists without doubles. No program in sight. -/
namespace KW

/-! ### lists without doubles -/
theorem nodup_sub_len {A : Type} [DecidableEq A] : ∀ {l m : List A}, l.Nodup → (∀ x ∈ l, x ∈ m) → l.length ≤ m.length
  | [], _, _, _ => Nat.zero_le _
  | x :: l, m, hn, hs => by
    rw [List.nodup_cons] at hn
    have hx : x ∈ m := hs x List.mem_cons_self
    have ih : l.length ≤ (m.erase x).length := nodup_sub_len hn.2 fun y hy => by
      have hne : y ≠ x := fun e => hn.1 (e ▸ hy)
      exact (List.mem_erase_of_ne hne).mpr (hs y (List.mem_cons_of_mem _ hy))
    rw [List.length_erase_of_mem hx] at ih
    have hp : 0 < m.length := List.length_pos_of_mem hx
    rw [List.length_cons]
    omega
theorem nodup_same_len {A : Type} [DecidableEq A] {l m : List A} (hl : l.Nodup) (hm : m.Nodup) (h : ∀ x, x ∈ l ↔ x ∈ m) : l.length = m.length :=
  Nat.le_antisymm (nodup_sub_len hl fun x hx => (h x).mp hx) (nodup_sub_len hm fun x hx => (h x).mpr hx)
theorem nodup_image_len {A B : Type} [DecidableEq A] (f : B → A) {l : List A} {m : List B} (hl : l.Nodup) (h : ∀ x ∈ l, ∃ y ∈ m, f y = x) : l.length ≤ m.length := by
  have := nodup_sub_len (m := m.map f) hl fun x hx => by
    obtain ⟨y, hy, e⟩ := h x hx
    exact List.mem_map.mpr ⟨y, hy, e⟩
  rwa [List.length_map] at this
theorem nodup_map_on {A B : Type} (f : A → B) : ∀ {l : List A}, l.Nodup → (∀ x ∈ l, ∀ y ∈ l, f x = f y → x = y) → (l.map f).Nodup
  | [], _, _ => List.nodup_nil
  | a :: l, hn, hi => by
    rw [List.nodup_cons] at hn
    rw [List.map_cons, List.nodup_cons]
    refine ⟨fun hm => ?_, nodup_map_on f hn.2 fun x hx y hy => hi x (List.mem_cons_of_mem _ hx) y (List.mem_cons_of_mem _ hy)⟩
    obtain ⟨y, hy, e⟩ := List.mem_map.mp hm
    have := hi y (List.mem_cons_of_mem _ hy) a List.mem_cons_self e
    subst this
    exact hn.1 hy
theorem nodup_get_inj {A : Type} : ∀ {l : List A}, l.Nodup → ∀ {i j : Nat} {x : A}, l[i]? = some x → l[j]? = some x → i = j
  | [], _, i, j, x, h, _ => by simp at h
  | a :: l, hn, 0, 0, x, _, _ => rfl
  | a :: l, hn, 0, j + 1, x, h, h' => by
    rw [List.nodup_cons] at hn
    simp at h h'
    subst h
    exact (hn.1 (List.mem_of_getElem? h')).elim
  | a :: l, hn, i + 1, 0, x, h, h' => by
    rw [List.nodup_cons] at hn
    simp at h h'
    subst h'
    exact (hn.1 (List.mem_of_getElem? h)).elim
  | a :: l, hn, i + 1, j + 1, x, h, h' => by
    rw [List.nodup_cons] at hn
    simp at h h'
    rw [nodup_get_inj hn.2 h h']
theorem nodup_snoc {A : Type} {l : List A} {x : A} (h : l.Nodup) (hx : x ∉ l) : (l ++ [x]).Nodup := by
  rw [List.nodup_append]
  refine ⟨h, by simp, ?_⟩
  intro a ha b hb
  rw [List.mem_singleton] at hb
  subst hb
  intro e
  subst e
  exact hx ha
theorem ind_nodup {A : Type} {l : List A} (h : ∀ (i j : Nat) (x : A), l[i]? = some x → l[j]? = some x → i = j) : l.Nodup := by
  induction l with
  | nil => exact List.nodup_nil
  | cons a l ih =>
    rw [List.nodup_cons]
    refine ⟨fun hm => ?_, ih fun i j x hi hj => ?_⟩
    · obtain ⟨i, hi⟩ := List.getElem?_of_mem hm
      have := h 0 (i + 1) a (by simp) (by simpa using hi)
      omega
    · have := h (i + 1) (j + 1) x (by simpa using hi) (by simpa using hj)
      omega

/-! ### the place of a thing in a list -/
section
variable {A : Type} [DecidableEq A]
def place : List A → A → Option Nat
  | [], _ => none
  | a :: l, x => if a = x then some 0 else (place l x).map (· + 1)
theorem place_some : ∀ {l : List A} {x : A} {i : Nat}, place l x = some i → l[i]? = some x
  | [], _, _, h => by cases h
  | a :: l, x, i, h => by
    unfold place at h
    by_cases e : a = x
    · rw [if_pos e] at h
      cases h
      simp [e]
    · rw [if_neg e] at h
      cases q : place l x with
      | none => rw [q] at h; cases h
      | some j =>
        rw [q] at h
        cases h
        simpa using place_some q
theorem place_none : ∀ {l : List A} {x : A}, place l x = none → x ∉ l
  | [], _, _ => by simp
  | a :: l, x, h => by
    unfold place at h
    by_cases e : a = x
    · rw [if_pos e] at h; cases h
    · rw [if_neg e] at h
      cases q : place l x with
      | none =>
        have := place_none q
        intro hm
        rcases List.mem_cons.mp hm with z | z
        · exact e z.symm
        · exact this z
      | some j => rw [q] at h; cases h
theorem place_mem {l : List A} {x : A} (h : x ∈ l) : ∃ i, place l x = some i := by
  cases q : place l x with
  | none => exact (place_none q h).elim
  | some i => exact ⟨i, rfl⟩
theorem place_isSome {l : List A} {x : A} : (place l x).isSome = true ↔ x ∈ l := by
  cases q : place l x with
  | none => simpa using place_none q
  | some i => simpa using List.mem_of_getElem? (place_some q)
theorem place_lt {l : List A} {x : A} {i : Nat} (h : place l x = some i) : i < l.length :=
  (List.getElem?_eq_some_iff.mp (place_some h)).1
theorem place_of_get {l : List A} (hn : l.Nodup) {x : A} {i : Nat} (h : l[i]? = some x) : place l x = some i := by
  obtain ⟨j, hj⟩ := place_mem (List.mem_of_getElem? h)
  rw [hj, nodup_get_inj hn (place_some hj) h]
theorem place_inj {l : List A} {x y : A} {i : Nat} (h : place l x = some i) (h' : place l y = some i) : x = y := by
  have a := place_some h
  rw [place_some h'] at a
  exact (Option.some.inj a).symm
end

/-! ### deterministic walks -/
section
variable {S : Type}
def runD (d : S → Nat → Option S) : S → List Nat → Option S
  | p, [] => some p
  | p, c :: w => (d p c).bind fun q => runD d q w
theorem runD_append (d : S → Nat → Option S) : ∀ (p : S) (u v : List Nat), runD d p (u ++ v) = (runD d p u).bind fun q => runD d q v
  | p, [], v => rfl
  | p, c :: u, v => by
    show (d p c).bind (fun q => runD d q (u ++ v)) = ((d p c).bind fun q => runD d q u).bind fun q => runD d q v
    cases d p c with
    | none => rfl
    | some q => exact runD_append d q u v
theorem runD_snoc (d : S → Nat → Option S) (p : S) (u : List Nat) (c : Nat) : runD d p (u ++ [c]) = (runD d p u).bind fun q => d q c := by
  rw [runD_append]
  cases runD d p u with
  | none => rfl
  | some q =>
    show (d q c).bind (fun r => some r) = d q c
    cases d q c <;> rfl
def Reach (d : S → Nat → Option S) (p0 p : S) : Prop := ∃ w, runD d p0 w = some p
theorem Reach.refl (d : S → Nat → Option S) (p : S) : Reach d p p := ⟨[], rfl⟩
theorem Reach.step {d : S → Nat → Option S} {p0 p q : S} {c : Nat} (h : Reach d p0 p) (e : d p c = some q) : Reach d p0 q := by
  obtain ⟨w, hw⟩ := h
  exact ⟨w ++ [c], by rw [runD_snoc, hw]; exact e⟩
/-- words as long as one likes lead on -/
def Goes (d : S → Nat → Option S) (p : S) : Prop := ∀ n : Nat, ∃ w : List Nat, w.length = n ∧ (runD d p w).isSome = true
theorem Goes.back {d : S → Nat → Option S} {p q : S} {c : Nat} (e : d p c = some q) (h : Goes d q) : Goes d p := fun n => by
  cases n with
  | zero => exact ⟨[], rfl, rfl⟩
  | succ n =>
    obtain ⟨w, hl, hr⟩ := h n
    refine ⟨c :: w, by rw [List.length_cons, hl], ?_⟩
    show ((d p c).bind fun q => runD d q w).isSome = true
    rw [e]
    exact hr
theorem Goes.backs {d : S → Nat → Option S} : ∀ {w : List Nat} {p q : S}, runD d p w = some q → Goes d q → Goes d p
  | [], p, q, e, h => by cases e; exact h
  | c :: w, p, q, e, h => by
    have e' : ((d p c).bind fun r => runD d r w) = some q := e
    cases z : d p c with
    | none => rw [z] at e'; cases e'
    | some r =>
      rw [z] at e'
      exact Goes.back z (Goes.backs (w := w) e' h)
theorem goes_of_closed {d : S → Nat → Option S} (X : S → Prop) (h : ∀ p, X p → ∃ c q, d p c = some q ∧ X q) : ∀ {p : S}, X p → Goes d p := by
  intro p hp n
  induction n generalizing p with
  | zero => exact ⟨[], rfl, rfl⟩
  | succ n ih =>
    obtain ⟨c, q, e, hq⟩ := h p hp
    obtain ⟨w, hl, hr⟩ := ih hq
    refine ⟨c :: w, by rw [List.length_cons, hl], ?_⟩
    show ((d p c).bind fun q => runD d q w).isSome = true
    rw [e]
    exact hr
theorem run_long {d : S → Nat → Option S} {p : S} {n : Nat} (h : ∀ w : List Nat, w.length = n → runD d p w = none) (w : List Nat) (hw : n ≤ w.length) : runD d p w = none := by
  have e : runD d p (w.take n ++ w.drop n) = none := by
    rw [runD_append, h (w.take n) (by rw [List.length_take]; omega)]
    rfl
  rwa [List.take_append_drop] at e
theorem not_goes {d : S → Nat → Option S} {p : S} (h : ¬ Goes d p) : ∃ n, ∀ w : List Nat, n ≤ w.length → runD d p w = none := by
  rcases Classical.not_forall.mp h with ⟨n, hn⟩
  refine ⟨n, run_long fun w hw => ?_⟩
  cases e : runD d p w with
  | none => rfl
  | some q => exact (hn ⟨w, hw, by rw [e]; rfl⟩).elim
theorem bound_all {d : S → Nat → Option S} : ∀ (l : List (Nat × S)), (∀ x ∈ l, ¬ Goes d x.2) → ∃ n, ∀ x ∈ l, ∀ w : List Nat, n ≤ w.length → runD d x.2 w = none
  | [], _ => ⟨0, fun _ h => nomatch h⟩
  | x :: l, h => by
    obtain ⟨n, hn⟩ := bound_all l fun y hy => h y (List.mem_cons_of_mem _ hy)
    obtain ⟨m, hm⟩ := not_goes (h x List.mem_cons_self)
    refine ⟨max n m, fun y hy w hw => ?_⟩
    rcases List.mem_cons.mp hy with rfl | hy
    · exact hm w (by omega)
    · exact hn y hy w (by omega)
theorem not_goes_of {d : S → Nat → Option S} {p : S} (l : List (Nat × S)) (hl : ∀ c q, d p c = some q → (c, q) ∈ l) (h : ∀ x ∈ l, ¬ Goes d x.2) : ¬ Goes d p := fun hg => by
  obtain ⟨n, hn⟩ := bound_all l h
  obtain ⟨w, hw, hr⟩ := hg (n + 1)
  cases w with
  | nil => simp at hw
  | cons c w =>
    have hr' : ((d p c).bind fun q => runD d q w).isSome = true := hr
    cases z : d p c with
    | none => rw [z] at hr'; simp at hr'
    | some q =>
      rw [z] at hr'
      have : runD d q w = none := hn (c, q) (hl c q z) w (by simp at hw; omega)
      have hr2 : (runD d q w).isSome = true := hr'
      rw [this] at hr2
      simp at hr2
end

/-! ### words: the shorter first, of one length as texts -/
def lexle : List Nat → List Nat → Prop
  | [], [] => True
  | x :: xs, y :: ys => x < y ∨ (x = y ∧ lexle xs ys)
  | _, _ => False
def wle (u v : List Nat) : Prop := u.length < v.length ∨ (u.length = v.length ∧ lexle u v)
theorem lexle_refl : ∀ u : List Nat, lexle u u
  | [] => trivial
  | _ :: u => .inr ⟨rfl, lexle_refl u⟩
theorem lexle_trans : ∀ {u v w : List Nat}, lexle u v → lexle v w → lexle u w
  | [], [], [], _, _ => trivial
  | x :: u, y :: v, z :: w, h, h' => by
    rcases h with h | ⟨e, h⟩
    · rcases h' with h' | ⟨e', _⟩
      · exact .inl (Nat.lt_trans h h')
      · exact .inl (e' ▸ h)
    · rcases h' with h' | ⟨e', h'⟩
      · exact .inl (e ▸ h')
      · exact .inr ⟨e.trans e', lexle_trans h h'⟩
  | [], _ :: _, _, h, _ => h.elim
  | _ :: _, [], _, h, _ => h.elim
  | [], [], _ :: _, _, h => h.elim
  | _ :: _, _ :: _, [], _, h => h.elim
theorem lexle_antisymm : ∀ {u v : List Nat}, lexle u v → lexle v u → u = v
  | [], [], _, _ => rfl
  | x :: u, y :: v, h, h' => by
    rcases h with h | ⟨e, h⟩
    · rcases h' with h' | ⟨e', _⟩ <;> omega
    · rcases h' with h' | ⟨_, h'⟩
      · omega
      · rw [e, lexle_antisymm h h']
  | [], _ :: _, h, _ => h.elim
  | _ :: _, [], h, _ => h.elim
theorem wle_refl (u : List Nat) : wle u u := .inr ⟨rfl, lexle_refl u⟩
theorem wle_trans {u v w : List Nat} (h : wle u v) (h' : wle v w) : wle u w := by
  rcases h with h | ⟨e, h⟩
  · rcases h' with h' | ⟨e', _⟩
    · exact .inl (Nat.lt_trans h h')
    · exact .inl (e' ▸ h)
  · rcases h' with h' | ⟨e', h'⟩
    · exact .inl (e ▸ h')
    · exact .inr ⟨e.trans e', lexle_trans h h'⟩
theorem wle_antisymm {u v : List Nat} (h : wle u v) (h' : wle v u) : u = v := by
  rcases h with h | ⟨_, h⟩
  · rcases h' with h' | ⟨e', _⟩ <;> omega
  · rcases h' with h' | ⟨_, h'⟩
    · omega
    · exact lexle_antisymm h h'
theorem wle_len {u v : List Nat} (h : wle u v) : u.length ≤ v.length := by
  rcases h with h | ⟨e, _⟩ <;> omega
theorem lexle_snoc : ∀ {u v : List Nat} {c d : Nat}, u.length = v.length → lexle u v → c ≤ d → lexle (u ++ [c]) (v ++ [d])
  | [], [], c, d, _, _, h => by
    show c < d ∨ (c = d ∧ lexle [] [])
    rcases Nat.lt_or_eq_of_le h with h | h
    · exact .inl h
    · exact .inr ⟨h, trivial⟩
  | x :: u, y :: v, c, d, e, h, hcd => by
    rcases h with h | ⟨e', h⟩
    · exact .inl h
    · exact .inr ⟨e', lexle_snoc (by simpa using e) h hcd⟩
  | [], _ :: _, _, _, e, _, _ => by simp at e
  | _ :: _, [], _, _, e, _, _ => by simp at e
theorem lexle_snoc_ne : ∀ {u v : List Nat} {c d : Nat}, u.length = v.length → lexle u v → u ≠ v → lexle (u ++ [c]) (v ++ [d])
  | [], [], _, _, _, _, h => (h rfl).elim
  | x :: u, y :: v, c, d, e, h, hne => by
    rcases h with h | ⟨e', h⟩
    · exact .inl h
    · subst e'
      exact .inr ⟨rfl, lexle_snoc_ne (by simpa using e) h fun z => hne (by rw [z])⟩
  | [], _ :: _, _, _, e, _, _ => by simp at e
  | _ :: _, [], _, _, e, _, _ => by simp at e
theorem wle_snoc {u v : List Nat} {c d : Nat} (h : wle u v) (hcd : c ≤ d) : wle (u ++ [c]) (v ++ [d]) := by
  rcases h with h | ⟨e, h⟩
  · exact .inl (by simp; exact h)
  · exact .inr ⟨by simp [e], lexle_snoc e h hcd⟩
theorem wle_snoc_ne {u v : List Nat} {c d : Nat} (h : wle u v) (hne : u ≠ v) : wle (u ++ [c]) (v ++ [d]) := by
  rcases h with h | ⟨e, h⟩
  · exact .inl (by simp; exact h)
  · exact .inr ⟨by simp [e], lexle_snoc_ne e h hne⟩
theorem nil_wle (u : List Nat) : wle [] u := by
  cases u with
  | nil => exact wle_refl _
  | cons _ _ => exact .inl (by simp)
end KW
/-! KwBeyond: the search for the first weather beyond, by pairs in the order of their first words: what holds between two turns, and what the end says. -/
namespace KW
theorem exists_snoc {A : Type} {w : List A} {n : Nat} (h : w.length = n + 1) : ∃ u c, w = u ++ [c] := by
  have hr : w.reverse.length = n + 1 := by rw [List.length_reverse, h]
  cases e : w.reverse with
  | nil => rw [e] at hr; simp at hr
  | cons c u =>
    refine ⟨u.reverse, c, ?_⟩
    rw [← List.reverse_reverse w, e, List.reverse_cons]
section
variable {S : Type} (d : S → Nat → Option S) (lets : S → List Nat) (p0 : S)
/-- a letter that does not fail has its pair among those found, by a word that is no later -/
def Fine (ents : List (S × List Nat)) (p : S) (u : List Nat) (c : Nat) : Prop := ∃ q, d p c = some q ∧ ∃ v, (q, v) ∈ ents ∧ wle v (u ++ [c])
/-- what holds between two turns: ents the pairs found with their words, at the place of the one looked at, done its letters that were looked at -/
structure BI (ents : List (S × List Nat)) (at_ : Nat) (done : List Nat) : Prop where
  nodup : (ents.map (·.1)).Nodup
  head : ents[0]? = some (p0, [])
  runs : ∀ x ∈ ents, runD d p0 x.2 = some x.1
  sorted : ents.Pairwise fun x y => wle x.2 y.2
  origin : ∀ x ∈ ents, x.2 = [] ∨ ∃ (i : Nat) (y : S × List Nat) (e : Nat), i ≤ at_ ∧ ents[i]? = some y ∧ x.2 = y.2 ++ [e] ∧ (i = at_ → e ∈ done)
  closed : ∀ i x, i < at_ → ents[i]? = some x → ∀ c ∈ lets x.1, Fine d ents x.1 x.2 c
  now : ∀ x, ents[at_]? = some x → ∀ c ∈ done, Fine d ents x.1 x.2 c
variable {d lets p0}
variable {ents : List (S × List Nat)} {at_ : Nat} {done : List Nat}
theorem BI.start : BI d lets p0 [(p0, [])] 0 [] where
  nodup := by simp
  head := rfl
  runs := fun x hx => by
    have e : x = (p0, []) := by simpa using hx
    subst e
    rfl
  sorted := by simp
  origin := fun x hx => by
    have e : x = (p0, []) := by simpa using hx
    subst e
    exact .inl rfl
  closed := fun i x h => absurd h (Nat.not_lt_zero i)
  now := fun x _ c hc => nomatch hc
theorem BI.words (I : BI d lets p0 ents at_ done) {i j : Nat} {x y : S × List Nat} (hi : ents[i]? = some x) (hj : ents[j]? = some y) (h : i < j) : wle x.2 y.2 ∧ x.2 ≠ y.2 := by
  have hp := List.pairwise_iff_getElem.mp I.sorted
  obtain ⟨li, ei⟩ := List.getElem?_eq_some_iff.mp hi
  obtain ⟨lj, ej⟩ := List.getElem?_eq_some_iff.mp hj
  refine ⟨by have := hp i j li lj h; rw [ei, ej] at this; exact this, fun e => ?_⟩
  have h1 := I.runs x (List.mem_of_getElem? hi)
  have h2 := I.runs y (List.mem_of_getElem? hj)
  rw [e, h2] at h1
  have e1 : x.1 = y.1 := (Option.some.inj h1).symm
  have := nodup_get_inj I.nodup (i := i) (j := j) (x := x.1) (by simp [hi]) (by simp [hj, e1])
  omega
/-- all words found so far are no later than the next one -/
theorem BI.le_next (I : BI d lets p0 ents at_ done) {x : S × List Nat} (hx : ents[at_]? = some x) {c : Nat} (hc : ∀ e ∈ done, e ≤ c) : ∀ y ∈ ents, wle y.2 (x.2 ++ [c]) := by
  intro y hy
  rcases I.origin y hy with e | ⟨i, z, e, hi, hz, hw, hd⟩
  · rw [e]; exact nil_wle _
  · rw [hw]
    rcases Nat.lt_or_eq_of_le hi with hlt | heq
    · obtain ⟨h1, h2⟩ := I.words hz hx hlt
      exact wle_snoc_ne h1 h2
    · subst heq
      rw [hz] at hx
      cases hx
      exact wle_snoc (wle_refl _) (hc e (hd rfl))
/-- a letter whose pair is new -/
theorem BI.new (I : BI d lets p0 ents at_ done) {x : S × List Nat} (hx : ents[at_]? = some x) {c : Nat} {q : S} (hc : ∀ e ∈ done, e ≤ c) (hq : d x.1 c = some q) (hn : q ∉ ents.map (·.1)) :
    BI d lets p0 (ents ++ [(q, x.2 ++ [c])]) at_ (done ++ [c]) := by
  have keep : ∀ {p : S} {u : List Nat} {e : Nat}, Fine d ents p u e → Fine d (ents ++ [(q, x.2 ++ [c])]) p u e := fun ⟨r, h1, v, h2, h3⟩ => ⟨r, h1, v, List.mem_append_left _ h2, h3⟩
  have hlt : at_ < ents.length := (List.getElem?_eq_some_iff.mp hx).1
  have old : ∀ {i : Nat} {y : S × List Nat}, i ≤ at_ → (ents ++ [(q, x.2 ++ [c])])[i]? = some y → ents[i]? = some y := fun {i y} hi h => by
    rwa [List.getElem?_append_left (by omega)] at h
  have up : ∀ {i : Nat} {y : S × List Nat}, ents[i]? = some y → (ents ++ [(q, x.2 ++ [c])])[i]? = some y := fun {i y} h => by
    rw [List.getElem?_append_left (List.getElem?_eq_some_iff.mp h).1]; exact h
  refine ⟨?_, ?_, ?_, ?_, ?_, ?_, ?_⟩
  · rw [List.map_append]
    exact nodup_snoc I.nodup hn
  · exact up I.head
  · intro y hy
    rcases List.mem_append.mp hy with hy | hy
    · exact I.runs y hy
    · have e : y = (q, x.2 ++ [c]) := by simpa using hy
      subst e
      show runD d p0 (x.2 ++ [c]) = some q
      rw [runD_snoc, I.runs x (List.mem_of_getElem? hx)]
      exact hq
  · rw [List.pairwise_append]
    refine ⟨I.sorted, by simp, fun y hy z hz => ?_⟩
    have e : z = (q, x.2 ++ [c]) := by simpa using hz
    subst e
    exact I.le_next hx hc y hy
  · intro y hy
    rcases List.mem_append.mp hy with hy | hy
    · rcases I.origin y hy with e | ⟨i, z, e, hi, hz, hw, hd⟩
      · exact .inl e
      · exact .inr ⟨i, z, e, hi, up hz, hw, fun h => List.mem_append_left _ (hd h)⟩
    · have e : y = (q, x.2 ++ [c]) := by simpa using hy
      subst e
      exact .inr ⟨at_, x, c, Nat.le_refl _, up hx, rfl, fun _ => by simp⟩
  · intro i y hi hy e he
    exact keep (I.closed i y hi (old (Nat.le_of_lt hi) hy) e he)
  · intro y hy e he
    have hy' := old (Nat.le_refl _) hy
    rcases List.mem_append.mp he with he | he
    · exact keep (I.now y hy' e he)
    · have ee : e = c := by simpa using he
      subst ee
      rw [hx] at hy'
      cases hy'
      exact ⟨q, hq, x.2 ++ [e], by simp, wle_refl _⟩
/-- a letter whose pair was found before -/
theorem BI.old (I : BI d lets p0 ents at_ done) {x : S × List Nat} (hx : ents[at_]? = some x) {c : Nat} {q : S} (hc : ∀ e ∈ done, e ≤ c) (hq : d x.1 c = some q) (hm : q ∈ ents.map (·.1)) :
    BI d lets p0 ents at_ (done ++ [c]) := by
  refine ⟨I.nodup, I.head, I.runs, I.sorted, fun y hy => ?_, I.closed, fun y hy e he => ?_⟩
  · rcases I.origin y hy with e | ⟨i, z, e, hi, hz, hw, hd⟩
    · exact .inl e
    · exact .inr ⟨i, z, e, hi, hz, hw, fun h => List.mem_append_left _ (hd h)⟩
  · rcases List.mem_append.mp he with he | he
    · exact I.now y hy e he
    · have ee : e = c := by simpa using he
      subst ee
      rw [hx] at hy
      cases hy
      obtain ⟨z, hz, ez⟩ := List.mem_map.mp hm
      exact ⟨q, hq, z.2, by rw [← ez]; exact hz, I.le_next hx hc z hz⟩
/-- a pair's letters are through -/
theorem BI.turn (I : BI d lets p0 ents at_ done) (hd : ∀ x, ents[at_]? = some x → ∀ c ∈ lets x.1, c ∈ done) : BI d lets p0 ents (at_ + 1) [] := by
  refine ⟨I.nodup, I.head, I.runs, I.sorted, fun y hy => ?_, fun i y hi hy c hc => ?_, fun y _ c hc => nomatch hc⟩
  · rcases I.origin y hy with e | ⟨i, z, e, hi, hz, hw, _⟩
    · exact .inl e
    · exact .inr ⟨i, z, e, by omega, hz, hw, fun h => absurd h (by omega)⟩
  · rcases Nat.lt_or_eq_of_le (Nat.lt_succ_iff.mp hi) with h | h
    · exact I.closed i y h hy c hc
    · subst h
      exact I.now y hy c (hd y hy c hc)
/-- a word that both go along: its pair is found by a word no later, or a pair not looked at yet is come to on the way -/
theorem BI.cover (I : BI d lets p0 ents at_ done) (hl : ∀ p q c, d p c = some q → c ∈ lets p) :
    ∀ (n : Nat) (u : List Nat) (p : S), u.length = n → runD d p0 u = some p → (∃ (i : Nat) (v : List Nat), ents[i]? = some (p, v) ∧ wle v u) ∨ ∃ (j : Nat) (y : S × List Nat), at_ ≤ j ∧ ents[j]? = some y ∧ y.2.length < u.length
  | 0, u, p, hn, hr => by
    have e : u = [] := List.length_eq_zero_iff.mp hn
    subst e
    cases hr
    exact .inl ⟨0, [], I.head, wle_refl _⟩
  | n + 1, u, p, hn, hr => by
    obtain ⟨u', c, eu⟩ := exists_snoc hn
    subst eu
    rw [runD_snoc] at hr
    have hl' : u'.length = n := by simpa using hn
    cases hq : runD d p0 u' with
    | none => rw [hq] at hr; cases hr
    | some q =>
      rw [hq] at hr
      have hr' : d q c = some p := hr
      rcases I.cover hl n u' q hl' hq with ⟨i, v, hi, hv⟩ | ⟨j, y, hj, hy, hlt⟩
      · by_cases h : i < at_
        · obtain ⟨r, h1, v', h2, h3⟩ := I.closed i (q, v) h hi c (hl q p c hr')
          have h1' : d q c = some r := h1
          rw [hr'] at h1'
          cases h1'
          obtain ⟨k, hk⟩ := List.getElem?_of_mem h2
          exact .inl ⟨k, v', hk, wle_trans h3 (wle_snoc hv (Nat.le_refl c))⟩
        · refine .inr ⟨i, (q, v), by omega, hi, ?_⟩
          have := wle_len hv
          show v.length < (u' ++ [c]).length
          rw [List.length_append]
          simp
          omega
      · refine .inr ⟨j, y, hj, hy, ?_⟩
        rw [List.length_append]
        omega
/-- the end: no letter fails anywhere -/
theorem BI.none_bad (I : BI d lets p0 ents at_ done) (hl : ∀ p q c, d p c = some q → c ∈ lets p) (he : ents.length ≤ at_) {p : S} (hp : Reach d p0 p) : ∀ c ∈ lets p, ∃ q, d p c = some q := by
  obtain ⟨u, hu⟩ := hp
  intro c hc
  rcases I.cover hl _ u p rfl hu with ⟨i, v, hi, _⟩ | ⟨j, y, hj, hy, _⟩
  · have := (List.getElem?_eq_some_iff.mp hi).1
    obtain ⟨q, h, _⟩ := I.closed i (p, v) (by omega) hi c hc
    exact ⟨q, h⟩
  · have := (List.getElem?_eq_some_iff.mp hy).1
    omega
/-- a letter that fails: the word to it is no later than any other such -/
theorem BI.first_bad (I : BI d lets p0 ents at_ done) (hl : ∀ p q c, d p c = some q → c ∈ lets p) {x : S × List Nat} (hx : ents[at_]? = some x) {c : Nat} (hrest : ∀ e ∈ lets x.1, e ∈ done ∨ c ≤ e) :
    ∀ (u : List Nat) (e : Nat) (p : S), runD d p0 u = some p → e ∈ lets p → d p e = none → wle (x.2 ++ [c]) (u ++ [e]) := by
  intro u e p hu he hbad
  have hlt := (List.getElem?_eq_some_iff.mp hx).1
  rcases I.cover hl _ u p rfl hu with ⟨i, v, hi, hv⟩ | ⟨j, y, hj, hy, hlen⟩
  · rcases Nat.lt_trichotomy i at_ with h | h | h
    · obtain ⟨q, h1, _⟩ := I.closed i (p, v) h hi e he
      have h1' : d p e = some q := h1
      rw [hbad] at h1'
      cases h1'
    · subst h
      rw [hi] at hx
      cases hx
      rcases hrest e he with hd | hle
      · obtain ⟨q, h1, _⟩ := I.now (p, v) hi e hd
        have h1' : d p e = some q := h1
        rw [hbad] at h1'
        cases h1'
      · exact wle_snoc hv hle
    · obtain ⟨h1, h2⟩ := I.words hx hi h
      exact wle_trans (wle_snoc_ne h1 h2) (wle_snoc hv (Nat.le_refl e))
  · left
    have h1 : x.2.length ≤ y.2.length := by
      rcases Nat.lt_or_eq_of_le hj with h | h
      · exact wle_len (I.words hx hy h).1
      · subst h
        rw [hx] at hy
        cases hy
        exact Nat.le_refl _
    rw [List.length_append, List.length_append]
    simp
    omega
end

/-! ### tables -/
abbrev Row := List (Nat × Nat)
abbrev Tab := List Row
def stepT (T : Tab) (q c : Nat) : Option Nat := (T[q]?).bind fun r => r.lookup c
abbrev run (T : Tab) (w : List Nat) : Option Nat := runD (stepT T) 0 w
/-- w is a weather of the kind -/
def Of (T : Tab) (w : List Nat) : Prop := (run T w).isSome = true
structure WF (T : Tab) : Prop where
  pos : 0 < T.length
  row : ∀ r ∈ T, r ≠ [] ∧ (r.map (·.1)).Nodup ∧ ∀ x ∈ r, (97 ≤ x.1 ∧ x.1 ≤ 122) ∧ x.2 < T.length
theorem lookup_mem {B : Type} : ∀ {r : List (Nat × B)} {c : Nat} {q : B}, r.lookup c = some q → (c, q) ∈ r
  | [], _, _, h => by cases h
  | (a, b) :: r, c, q, h => by
    rw [List.lookup_cons] at h
    by_cases e : (c == a) = true
    · rw [e] at h
      cases h
      rw [beq_iff_eq] at e
      subst e
      exact List.mem_cons_self
    · have e' : (c == a) = false := by simpa using e
      rw [e'] at h
      exact List.mem_cons_of_mem _ (lookup_mem h)
theorem lookup_of_mem {B : Type} : ∀ {r : List (Nat × B)} {c : Nat} {q : B}, (r.map (·.1)).Nodup → (c, q) ∈ r → r.lookup c = some q
  | (a, b) :: r, c, q, hn, h => by
    rw [List.map_cons, List.nodup_cons] at hn
    rw [List.lookup_cons]
    rcases List.mem_cons.mp h with e | h
    · cases e
      simp
    · have hne : c ≠ a := fun e => hn.1 (List.mem_map.mpr ⟨(c, q), h, e⟩)
      have e' : (c == a) = false := by simpa using hne
      rw [e']
      exact lookup_of_mem hn.2 h
theorem lookup_isSome {B : Type} {r : List (Nat × B)} {c : Nat} : (∃ q, r.lookup c = some q) ↔ c ∈ r.map (·.1) := by
  induction r with
  | nil => simp
  | cons a r ih =>
    rw [List.lookup_cons, List.map_cons, List.mem_cons]
    by_cases e : (c == a.1) = true
    · rw [e]
      rw [beq_iff_eq] at e
      simp [e]
    · have e' : (c == a.1) = false := by simpa using e
      rw [e']
      rw [beq_eq_false_iff_ne] at e'
      rw [← ih]
      simp [e']
theorem stepT_mem {T : Tab} {q c q' : Nat} (h : stepT T q c = some q') : ∃ r, T[q]? = some r ∧ (c, q') ∈ r := by
  unfold stepT at h
  cases e : T[q]? with
  | none => rw [e] at h; cases h
  | some r =>
    rw [e] at h
    exact ⟨r, rfl, lookup_mem h⟩
theorem WF.step_lt {T : Tab} (h : WF T) {q c q' : Nat} (e : stepT T q c = some q') : q' < T.length := by
  obtain ⟨r, hr, hm⟩ := stepT_mem e
  exact ((h.row r (List.mem_of_getElem? hr)).2.2 _ hm).2
theorem WF.letter {T : Tab} (h : WF T) {q c q' : Nat} (e : stepT T q c = some q') : 97 ≤ c ∧ c ≤ 122 := by
  obtain ⟨r, hr, hm⟩ := stepT_mem e
  exact ((h.row r (List.mem_of_getElem? hr)).2.2 _ hm).1
theorem WF.run_lt {T : Tab} (h : WF T) : ∀ {w : List Nat} {q q' : Nat}, q < T.length → runD (stepT T) q w = some q' → q' < T.length
  | [], q, q', hq, e => by cases e; exact hq
  | c :: w, q, q', hq, e => by
    have e' : ((stepT T q c).bind fun r => runD (stepT T) r w) = some q' := e
    cases z : stepT T q c with
    | none => rw [z] at e'; cases e'
    | some r =>
      rw [z] at e'
      exact h.run_lt (w := w) (h.step_lt z) e'
theorem WF.on {T : Tab} (h : WF T) {q : Nat} (hq : q < T.length) : ∃ c q', stepT T q c = some q' := by
  have hr := h.row T[q] (List.getElem_mem hq)
  cases e : T[q] with
  | nil => exact (hr.1 e).elim
  | cons x r =>
    refine ⟨x.1, x.2, ?_⟩
    unfold stepT
    rw [List.getElem?_eq_getElem hq, e]
    show List.lookup x.1 (x :: r) = some x.2
    rw [List.lookup_cons]
    simp

/-! ### pairs of rows -/
abbrev PK := Option Nat × Option Nat
def pk0 : PK := (some 0, some 0)
def dB (T U : Tab) (p : PK) (c : Nat) : Option PK := match p.1.bind (stepT T · c), p.2.bind (stepT U · c) with
  | some a, some b => some (some a, some b)
  | _, _ => none
def joinE : Option Nat → Option Nat → Option PK
  | none, none => none
  | x, y => some (x, y)
def joinB : Option Nat → Option Nat → Option PK
  | some a, some b => some (some a, some b)
  | _, _ => none
def dE (T U : Tab) (p : PK) (c : Nat) : Option PK := joinE (p.1.bind (stepT T · c)) (p.2.bind (stepT U · c))
theorem dB_eq (T U : Tab) (p : PK) (c : Nat) : dB T U p c = joinB (p.1.bind (stepT T · c)) (p.2.bind (stepT U · c)) := by
  unfold dB
  cases p.1.bind (stepT T · c) <;> cases p.2.bind (stepT U · c) <;> rfl
theorem joinB_some {x y : Option Nat} {p : PK} (h : joinB x y = some p) : p = (x, y) ∧ ∃ a b, x = some a ∧ y = some b := by
  cases x with
  | none => cases h
  | some a => cases y with
    | none => cases h
    | some b => cases h; exact ⟨rfl, a, b, rfl, rfl⟩
theorem joinE_some {x y : Option Nat} {p : PK} (h : joinE x y = some p) : p = (x, y) ∧ (x ≠ none ∨ y ≠ none) := by
  cases x with
  | none => cases y with
    | none => cases h
    | some b => cases h; exact ⟨rfl, .inr (by simp)⟩
  | some a => cases y <;> (cases h; exact ⟨rfl, .inl (by simp)⟩)
theorem joinE_none {x y : Option Nat} : joinE x y = none ↔ x = none ∧ y = none := by
  cases x <;> cases y <;> simp [joinE]
theorem joinB_none {x y : Option Nat} : joinB x y = none ↔ x = none ∨ y = none := by
  cases x <;> cases y <;> simp [joinB]
theorem runE {T U : Tab} : ∀ (w : List Nat) (x y : Option Nat), (x ≠ none ∨ y ≠ none) → runD (dE T U) (x, y) w = joinE (x.bind (runD (stepT T) · w)) (y.bind (runD (stepT U) · w))
  | [], x, y, h => by
    have e1 : x.bind (runD (stepT T) · []) = x := by cases x <;> rfl
    have e2 : y.bind (runD (stepT U) · []) = y := by cases y <;> rfl
    rw [e1, e2]
    cases x with
    | none => cases y with
      | none => simp at h
      | some b => rfl
    | some a => cases y <;> rfl
  | c :: w, x, y, h => by
    have e1 : x.bind (runD (stepT T) · (c :: w)) = (x.bind (stepT T · c)).bind (runD (stepT T) · w) := by cases x <;> rfl
    have e2 : y.bind (runD (stepT U) · (c :: w)) = (y.bind (stepT U · c)).bind (runD (stepT U) · w) := by cases y <;> rfl
    rw [e1, e2]
    show (dE T U (x, y) c).bind (fun q => runD (dE T U) q w) = _
    cases z : dE T U (x, y) c with
    | none =>
      obtain ⟨h1, h2⟩ := joinE_none.mp z
      have h1' : x.bind (stepT T · c) = none := h1
      have h2' : y.bind (stepT U · c) = none := h2
      rw [h1', h2']
      rfl
    | some p =>
      obtain ⟨e, hne⟩ := joinE_some z
      subst e
      show runD (dE T U) _ w = _
      exact runE w _ _ hne
theorem runB {T U : Tab} : ∀ (w : List Nat) (i j : Nat), runD (dB T U) (some i, some j) w = joinB (runD (stepT T) i w) (runD (stepT U) j w)
  | [], i, j => rfl
  | c :: w, i, j => by
    show (dB T U (some i, some j) c).bind (fun q => runD (dB T U) q w) = joinB ((stepT T i c).bind fun r => runD (stepT T) r w) ((stepT U j c).bind fun r => runD (stepT U) r w)
    rw [dB_eq]
    show (joinB (stepT T i c) (stepT U j c)).bind (fun q => runD (dB T U) q w) = _
    cases stepT T i c with
    | none => rfl
    | some a =>
      cases stepT U j c with
      | none =>
        show none = joinB (runD (stepT T) a w) none
        cases runD (stepT T) a w <;> rfl
      | some b => exact runB w a b
theorem runE0 (T U : Tab) (w : List Nat) : runD (dE T U) pk0 w = joinE (run T w) (run U w) := runE w (some 0) (some 0) (.inl (by simp))
theorem runB0 (T U : Tab) (w : List Nat) : runD (dB T U) pk0 w = joinB (run T w) (run U w) := runB w 0 0

/-! ### the first weather beyond -/
/-- r is the first weather of T that is none of U's, or none -/
def Beyond (T U : Tab) : Option (List Nat) → Prop
  | none => ∀ w, Of T w → Of U w
  | some w => (Of T w ∧ ¬ Of U w) ∧ ∀ v, Of T v → ¬ Of U v → wle w v
theorem Beyond.unique {T U T' U' : Tab} {r r' : Option (List Nat)} (h : Beyond T U r) (h' : Beyond T' U' r') (e : ∀ w, (Of T w ∧ ¬ Of U w) ↔ (Of T' w ∧ ¬ Of U' w)) : r = r' := by
  cases r with
  | none =>
    cases r' with
    | none => rfl
    | some w' =>
      obtain ⟨h1, _⟩ := h'
      have := (e w').mpr h1
      exact (this.2 (h w' this.1)).elim
  | some w =>
    cases r' with
    | none =>
      obtain ⟨h1, _⟩ := h
      have := (e w).mp h1
      exact (this.2 (h' w this.1)).elim
    | some w' =>
      obtain ⟨h1, h2⟩ := h
      obtain ⟨h3, h4⟩ := h'
      have a := (e w').mpr h3
      have b := (e w).mp h1
      rw [wle_antisymm (h2 w' a.1 a.2) (h4 w b.1 b.2)]
theorem Beyond.none_iff {T U : Tab} {r : Option (List Nat)} (h : Beyond T U r) : r = none ↔ ∀ w, Of T w → Of U w := by
  constructor
  · intro e
    subst e
    exact h
  · intro e
    cases r with
    | none => rfl
    | some w => exact (h.1.2 (e w h.1.1)).elim
/-- the letters of a pair's first row -/
def letsB (T : Tab) (p : PK) : List Nat := match p.1.bind fun i => T[i]? with
  | some r => r.map (·.1)
  | none => []
theorem letsB_step (T : Tab) {i c : Nat} {y : Option Nat} : c ∈ letsB T (some i, y) ↔ ∃ a, stepT T i c = some a := by
  have e : letsB T (some i, y) = match (T[i]? : Option Row) with
      | some (r : Row) => r.map (fun x : Nat × Nat => x.1)
      | none => [] := rfl
  rw [e]
  unfold stepT
  cases (T[i]? : Option Row) with
  | none => simp
  | some r => exact lookup_isSome.symm
theorem dB_lets {T U : Tab} : ∀ (p q : PK) (c : Nat), dB T U p c = some q → c ∈ letsB T p := by
  intro p q c h
  obtain ⟨x, y⟩ := p
  rw [dB_eq] at h
  obtain ⟨_, a, b, e1, e2⟩ := joinB_some h
  cases x with
  | none => cases e1
  | some i => exact (letsB_step T).mpr ⟨a, e1⟩
theorem beyond_none {T U : Tab} (h : ∀ p : PK, Reach (dB T U) pk0 p → ∀ c ∈ letsB T p, ∃ q : PK, dB T U p c = some q) : Beyond T U none := by
  -- by the word, from the left
  have key : ∀ (n : Nat) (w : List Nat), w.length = n → Of T w → Of U w := by
    intro n
    induction n with
    | zero =>
      intro w hw _
      have e : w = [] := List.length_eq_zero_iff.mp hw
      subst e
      rfl
    | succ n ih =>
      intro w hw ht
      obtain ⟨u, c, eu⟩ := exists_snoc hw
      subst eu
      unfold Of run at ht
      rw [runD_snoc] at ht
      cases hq : runD (stepT T) 0 u with
      | none => rw [hq] at ht; simp at ht
      | some i =>
        rw [hq] at ht
        have hu := ih u (by simpa using hw) (by unfold Of run; rw [hq]; rfl)
        unfold Of run at hu
        cases hj : runD (stepT U) 0 u with
        | none => rw [hj] at hu; simp at hu
        | some j =>
          have hr : Reach (dB T U) pk0 (some i, some j) := ⟨u, by rw [runB0]; unfold run; rw [hq, hj]; rfl⟩
          have ht' : (stepT T i c).isSome = true := ht
          obtain ⟨a, ha⟩ := Option.isSome_iff_exists.mp ht'
          obtain ⟨q, e⟩ := h _ hr c ((letsB_step T).mpr ⟨a, ha⟩)
          rw [dB_eq] at e
          obtain ⟨_, a', b, _, e2⟩ := joinB_some e
          have e2' : stepT U j c = some b := e2
          unfold Of run
          rw [runD_snoc, hj]
          show (stepT U j c).isSome = true
          rw [e2']
          rfl
  exact fun w => key _ w rfl
theorem beyond_some {T U : Tab} {u : List Nat} {c : Nat} {p : PK} (hr : runD (dB T U) pk0 u = some p) (hc : c ∈ letsB T p) (hbad : dB T U p c = none)
    (hmin : ∀ (v : List Nat) (e : Nat) (q : PK), runD (dB T U) pk0 v = some q → e ∈ letsB T q → dB T U q e = none → wle (u ++ [c]) (v ++ [e])) : Beyond T U (some (u ++ [c])) := by
  rw [runB0] at hr
  obtain ⟨ep, i, j, h1, h2⟩ := joinB_some hr
  rw [h1, h2] at ep
  subst ep
  obtain ⟨a, ha⟩ := (letsB_step T).mp hc
  refine ⟨⟨?_, fun hu => ?_⟩, fun v hv hn => ?_⟩
  · unfold Of run
    rw [runD_snoc]
    unfold run at h1
    rw [h1]
    show (stepT T i c).isSome = true
    rw [ha]
    rfl
  · unfold Of run at hu
    rw [runD_snoc] at hu
    unfold run at h2
    rw [h2] at hu
    have hu' : (stepT U j c).isSome = true := hu
    obtain ⟨b, hb⟩ := Option.isSome_iff_exists.mp hu'
    have z : dB T U (some i, some j) c = some (some a, some b) := by
      rw [dB_eq]
      show joinB (stepT T i c) (stepT U j c) = _
      rw [ha, hb]
      rfl
    rw [hbad] at z
    cases z
  · -- the place where v first fails in U
    have key : ∀ (n : Nat) (v : List Nat), v.length = n → Of T v → ¬ Of U v → ∃ (v1 : List Nat) (e : Nat) (v2 : List Nat) (q : PK), v = v1 ++ e :: v2 ∧ runD (dB T U) pk0 v1 = some q ∧ e ∈ letsB T q ∧ dB T U q e = none := by
      intro n
      induction n with
      | zero =>
        intro v hv _ hn
        have e : v = [] := List.length_eq_zero_iff.mp hv
        subst e
        exact (hn rfl).elim
      | succ n ih =>
        intro v hv ht hn
        obtain ⟨v', e, eu⟩ := exists_snoc hv
        subst eu
        unfold Of run at ht
        rw [runD_snoc] at ht
        cases hq : runD (stepT T) 0 v' with
        | none => rw [hq] at ht; simp at ht
        | some i' =>
          rw [hq] at ht
          have ht' : (stepT T i' e).isSome = true := ht
          obtain ⟨a', ha'⟩ := Option.isSome_iff_exists.mp ht'
          cases hj : runD (stepT U) 0 v' with
          | none =>
            obtain ⟨v1, e', v2, q, e1, e2, e3, e4⟩ := ih v' (by simpa using hv) (by unfold Of run; rw [hq]; rfl) (by unfold Of run; rw [hj]; simp)
            exact ⟨v1, e', v2 ++ [e], q, by rw [e1]; simp, e2, e3, e4⟩
          | some j' =>
            refine ⟨v', e, [], (some i', some j'), rfl, by rw [runB0]; unfold run; rw [hq, hj]; rfl, (letsB_step T).mpr ⟨a', ha'⟩, ?_⟩
            rw [dB_eq]
            show joinB (stepT T i' e) (stepT U j' e) = none
            cases hb : stepT U j' e with
            | none => rw [joinB_none]; exact .inr rfl
            | some b =>
              refine (hn ?_).elim
              unfold Of run
              rw [runD_snoc, hj]
              show (stepT U j' e).isSome = true
              rw [hb]
              rfl
    obtain ⟨v1, e, v2, q, ev, h3, h4, h5⟩ := key _ v rfl hv hn
    have m := hmin v1 e q h3 h4 h5
    subst ev
    cases v2 with
    | nil => exact m
    | cons x v2 =>
      refine .inl ?_
      have := wle_len m
      simp at this ⊢
      omega
end KW
/-! KwPairs: all pairs come to; those that go on, by peeling off the ended ones; the kind made of pairs. -/
namespace KW
abbrev Steps := List (Nat × PK)
abbrev FoundL := List (PK × Steps)
/-- l tells the steps of p: each letter once -/
def IsSteps (d : PK → Nat → Option PK) (p : PK) (l : Steps) : Prop := (l.map (·.1)).Nodup ∧ ∀ c q, (c, q) ∈ l ↔ d p c = some q
structure Found (d : PK → Nat → Option PK) (F : FoundL) : Prop where
  nodup : (F.map (·.1)).Nodup
  head : ∃ l, F[0]? = some (pk0, l)
  steps : ∀ x ∈ F, IsSteps d x.1 x.2
  reach : ∀ x ∈ F, Reach d pk0 x.1
  closed : ∀ x ∈ F, ∀ y ∈ x.2, y.2 ∈ F.map (·.1)
theorem Found.mem {d : PK → Nat → Option PK} {F : FoundL} (h : Found d F) (p : PK) : p ∈ F.map (·.1) ↔ Reach d pk0 p := by
  constructor
  · intro hm
    obtain ⟨x, hx, e⟩ := List.mem_map.mp hm
    subst e
    exact h.reach x hx
  · rintro ⟨w, hw⟩
    have key : ∀ (n : Nat) (w : List Nat) (p : PK), w.length = n → runD d pk0 w = some p → p ∈ F.map (·.1) := by
      intro n
      induction n with
      | zero =>
        intro w p hl hr
        have e : w = [] := List.length_eq_zero_iff.mp hl
        subst e
        cases hr
        obtain ⟨l, hl⟩ := h.head
        exact List.mem_map.mpr ⟨_, List.mem_of_getElem? hl, rfl⟩
      | succ n ih =>
        intro w p hl hr
        obtain ⟨u, c, e⟩ := exists_snoc hl
        subst e
        rw [runD_snoc] at hr
        cases hq : runD d pk0 u with
        | none => rw [hq] at hr; cases hr
        | some q =>
          rw [hq] at hr
          have hr' : d q c = some p := hr
          obtain ⟨x, hx, e⟩ := List.mem_map.mp (ih u q (by simpa using hl) hq)
          subst e
          exact h.closed x hx (c, p) (((h.steps x hx).2 c p).mpr hr')
    exact key _ w p rfl hw

/-! ### the search for all pairs -/
structure FI (d : PK → Nat → Option PK) (F : FoundL) (at_ k : Nat) : Prop where
  nodup : (F.map (·.1)).Nodup
  head : ∃ l, F[0]? = some (pk0, l)
  steps : ∀ x ∈ F, IsSteps d x.1 x.2
  reach : ∀ x ∈ F, Reach d pk0 x.1
  closed : ∀ i x, i < at_ → F[i]? = some x → ∀ y ∈ x.2, y.2 ∈ F.map (·.1)
  now : ∀ x, F[at_]? = some x → ∀ y ∈ x.2.take k, y.2 ∈ F.map (·.1)
section
variable {d : PK → Nat → Option PK} {F : FoundL} {at_ k : Nat}
theorem FI.start {l : Steps} (h : IsSteps d pk0 l) : FI d [(pk0, l)] 0 0 where
  nodup := by simp
  head := ⟨l, rfl⟩
  steps := fun x hx => by
    have e : x = (pk0, l) := by simpa using hx
    subst e
    exact h
  reach := fun x hx => by
    have e : x = (pk0, l) := by simpa using hx
    subst e
    exact Reach.refl _ _
  closed := fun i x hi => absurd hi (Nat.not_lt_zero i)
  now := fun x _ y hy => by simp at hy
theorem take_snoc {A : Type} : ∀ {l : List A} {k : Nat} {y : A}, l[k]? = some y → l.take (k + 1) = l.take k ++ [y]
  | [], _, _, h => by simp at h
  | a :: l, 0, y, h => by
    simp at h
    subst h
    simp
  | a :: l, k + 1, y, h => by
    have ih := take_snoc (l := l) (k := k) (y := y) (by simpa using h)
    rw [List.take_succ_cons, ih, List.take_succ_cons, List.cons_append]
theorem FI.new (I : FI d F at_ k) {x : PK × Steps} (hx : F[at_]? = some x) {y : Nat × PK} (hy : x.2[k]? = some y) (hn : y.2 ∉ F.map (·.1)) {l : Steps} (hl : IsSteps d y.2 l) : FI d (F ++ [(y.2, l)]) at_ (k + 1) := by
  have hlt : at_ < F.length := (List.getElem?_eq_some_iff.mp hx).1
  have old : ∀ {i : Nat} {z : PK × Steps}, i ≤ at_ → (F ++ [(y.2, l)])[i]? = some z → F[i]? = some z := fun {i z} hi h => by
    rwa [List.getElem?_append_left (by omega)] at h
  have up : ∀ {q : PK}, q ∈ F.map (·.1) → q ∈ (F ++ [(y.2, l)]).map (·.1) := fun h => by
    rw [List.map_append]
    exact List.mem_append_left _ h
  refine ⟨by rw [List.map_append]; exact nodup_snoc I.nodup hn, ?_, fun z hz => ?_, fun z hz => ?_, fun i z hi hz => fun u hu => up (I.closed i z hi (old (Nat.le_of_lt hi) hz) u hu), fun z hz u hu => ?_⟩
  · obtain ⟨l0, h0⟩ := I.head
    exact ⟨l0, by rw [List.getElem?_append_left (by omega)]; exact h0⟩
  · rcases List.mem_append.mp hz with hz | hz
    · exact I.steps z hz
    · have e : z = (y.2, l) := by simpa using hz
      subst e
      exact hl
  · rcases List.mem_append.mp hz with hz | hz
    · exact I.reach z hz
    · have e : z = (y.2, l) := by simpa using hz
      subst e
      have hxF := List.mem_of_getElem? hx
      exact (I.reach x hxF).step (((I.steps x hxF).2 y.1 y.2).mp (List.mem_of_getElem? hy))
  · have hz' := old (Nat.le_refl _) hz
    rw [hx] at hz'
    cases hz'
    rw [take_snoc hy] at hu
    rcases List.mem_append.mp hu with hu | hu
    · exact up (I.now x hx u hu)
    · have e : u = y := by simpa using hu
      subst e
      rw [List.map_append]
      exact List.mem_append_right _ (by simp)
theorem FI.old (I : FI d F at_ k) {x : PK × Steps} (hx : F[at_]? = some x) {y : Nat × PK} (hy : x.2[k]? = some y) (hm : y.2 ∈ F.map (·.1)) : FI d F at_ (k + 1) := by
  refine ⟨I.nodup, I.head, I.steps, I.reach, I.closed, fun z hz u hu => ?_⟩
  rw [hx] at hz
  cases hz
  rw [take_snoc hy] at hu
  rcases List.mem_append.mp hu with hu | hu
  · exact I.now x hx u hu
  · have e : u = y := by simpa using hu
    subst e
    exact hm
theorem FI.turn (I : FI d F at_ k) (hk : ∀ x, F[at_]? = some x → x.2.length ≤ k) : FI d F (at_ + 1) 0 := by
  refine ⟨I.nodup, I.head, I.steps, I.reach, fun i x hi hx y hy => ?_, fun x _ y hy => by simp at hy⟩
  rcases Nat.lt_or_eq_of_le (Nat.lt_succ_iff.mp hi) with h | h
  · exact I.closed i x h hx y hy
  · subst h
    exact I.now x hx y (by rw [List.take_of_length_le (hk x hx)]; exact hy)
theorem FI.done (I : FI d F at_ k) (h : F.length ≤ at_) : Found d F := by
  refine ⟨I.nodup, I.head, I.steps, I.reach, fun x hx y hy => ?_⟩
  obtain ⟨i, hi⟩ := List.getElem?_of_mem hx
  have := (List.getElem?_eq_some_iff.mp hi).1
  exact I.closed i x (by omega) hi y hy
theorem FI.len (I : FI d F at_ k) {U : List PK} (hU : ∀ p, Reach d pk0 p → p ∈ U) : F.length ≤ U.length := by
  have := nodup_sub_len (m := U) I.nodup fun p hp => by
    obtain ⟨x, hx, e⟩ := List.mem_map.mp hp
    subst e
    exact hU _ (I.reach x hx)
  rwa [List.length_map] at this
end

/-! ### those that go on -/
/-- who steps to e, once for each letter, in the order of what was found -/
def predsOf (F : FoundL) (e : PK) : List PK := F.flatMap fun x => x.2.filterMap fun y => if y.2 = e then some x.1 else none
theorem count_self (e p : PK) : ∀ l : Steps, (l.filterMap fun y => if y.2 = e then some p else none).count p = l.countP fun y => decide (y.2 = e)
  | [] => rfl
  | y :: l => by
    rw [List.filterMap_cons, List.countP_cons]
    by_cases h : y.2 = e
    · simp [h, count_self e p l]
    · simp [h, count_self e p l]
theorem count_other {e p q : PK} (hne : q ≠ p) : ∀ l : Steps, (l.filterMap fun y => if y.2 = e then some q else none).count p = 0
  | [] => rfl
  | y :: l => by
    rw [List.filterMap_cons]
    by_cases h : y.2 = e
    · simp [h, count_other hne l, hne]
    · simp [h, count_other hne l]
theorem count_preds : ∀ {F : FoundL}, (F.map (·.1)).Nodup → ∀ {x : PK × Steps}, x ∈ F → ∀ e : PK, (predsOf F e).count x.1 = x.2.countP fun y => decide (y.2 = e)
  | z :: F, hn, x, hx, e => by
    rw [List.map_cons, List.nodup_cons] at hn
    have e0 : predsOf (z :: F) e = (z.2.filterMap fun y => if y.2 = e then some z.1 else none) ++ predsOf F e := rfl
    rw [e0, List.count_append]
    rcases List.mem_cons.mp hx with h | h
    · subst h
      rw [count_self]
      have : (predsOf F e).count x.1 = 0 := by
        rw [List.count_eq_zero]
        intro hm
        unfold predsOf at hm
        obtain ⟨z, hz, hm⟩ := List.mem_flatMap.mp hm
        obtain ⟨y, hy, hm⟩ := List.mem_filterMap.mp hm
        by_cases h : y.2 = e
        · rw [if_pos h] at hm
          have ez : z.1 = x.1 := Option.some.inj hm
          exact hn.1 (List.mem_map.mpr ⟨z, hz, ez⟩)
        · rw [if_neg h] at hm
          cases hm
      omega
    · have hne : z.1 ≠ x.1 := fun q => hn.1 (List.mem_map.mpr ⟨x, h, q.symm⟩)
      rw [count_other hne, count_preds hn.2 h e]
      omega
theorem preds_mem {F : FoundL} {e p : PK} (h : p ∈ predsOf F e) : ∃ x ∈ F, x.1 = p := by
  unfold predsOf at h
  obtain ⟨z, hz, hm⟩ := List.mem_flatMap.mp h
  obtain ⟨y, hy, hm⟩ := List.mem_filterMap.mp hm
  by_cases h : y.2 = e
  · rw [if_pos h] at hm
    cases hm
    exact ⟨z, hz, rfl⟩
  · rw [if_neg h] at hm
    cases hm
/-- behind the first rows: how often each was noted as one who steps to e -/
structure WI (d : PK → Nat → Option PK) (F : FoundL) (m : PK → Int) (E : List PK) (at_ : Nat) (done : List PK) : Prop where
  enodup : E.Nodup
  emem : ∀ p ∈ E, p ∈ F.map (·.1)
  zero : ∀ x ∈ F, m x.1 = 0 ↔ x.1 ∈ E
  cnt : ∀ x ∈ F, m x.1 = ((x.2.countP fun y => decide (y.2 ∉ E.take at_) : Nat) : Int) - (done.count x.1 : Nat)
  dead : ∀ p ∈ E, ¬ Goes d p
section
variable {d : PK → Nat → Option PK} {F : FoundL} {m : PK → Int} {E : List PK} {at_ : Nat} {done : List PK}
theorem WI.start (hF : Found d F) (hm : ∀ x ∈ F, m x.1 = (x.2.length : Int)) (hE : E = (F.map (·.1)).filter fun p => decide (m p = 0)) : WI d F m E 0 [] := by
  have mem : ∀ p, p ∈ E ↔ p ∈ F.map (·.1) ∧ m p = 0 := fun p => by
    rw [hE, List.mem_filter]
    simp
  refine ⟨hE ▸ hF.nodup.filter _, fun p hp => ((mem p).mp hp).1, fun x hx => ?_, fun x hx => ?_, fun p hp => ?_⟩
  · rw [mem]
    exact ⟨fun h => ⟨List.mem_map.mpr ⟨x, hx, rfl⟩, h⟩, fun h => h.2⟩
  · rw [hm x hx]
    simp
  · obtain ⟨h1, h2⟩ := (mem p).mp hp
    obtain ⟨x, hx, e⟩ := List.mem_map.mp h1
    subst e
    have h3 : x.2 = [] := by
      have := hm x hx
      rw [h2] at this
      exact List.length_eq_zero_iff.mp (by omega)
    refine not_goes_of [] (fun c q h => ?_) (fun _ h => nomatch h)
    have := ((hF.steps x hx).2 c q).mpr h
    rw [h3] at this
    exact this
theorem countP_le_of {A : Type} {p q : A → Bool} : ∀ {l : List A}, (∀ y ∈ l, p y = true → q y = true) → l.countP p ≤ l.countP q
  | [], _ => Nat.le_refl _
  | a :: l, h => by
    rw [List.countP_cons, List.countP_cons]
    have ih := countP_le_of (l := l) fun y hy => h y (List.mem_cons_of_mem _ hy)
    have := h a List.mem_cons_self
    cases hp : p a with
    | false => simp; omega
    | true => rw [hp] at this; simp [this rfl]; omega
theorem countP_split {A : Type} {p q r : A → Bool} : ∀ {l : List A}, (∀ y ∈ l, (p y = true ↔ (q y = true ∨ r y = true)) ∧ ¬ (q y = true ∧ r y = true)) → l.countP p = l.countP q + l.countP r
  | [], _ => rfl
  | a :: l, h => by
    rw [List.countP_cons, List.countP_cons, List.countP_cons]
    have ih := countP_split (l := l) fun y hy => h y (List.mem_cons_of_mem _ hy)
    have := h a List.mem_cons_self
    cases hp : p a <;> cases hq : q a <;> cases hr : r a <;> simp [hp, hq, hr] at this ⊢ <;> omega
theorem countP_zero {A : Type} {p : A → Bool} {l : List A} (h : l.countP p = 0) : ∀ y ∈ l, p y = false := by
  intro y hy
  cases hp : p y with
  | false => rfl
  | true =>
    have : 0 < l.countP p := List.countP_pos_iff.mpr ⟨y, hy, hp⟩
    omega
/-- what a turn finds: it steps to e, so it was not ended yet -/
theorem WI.pos (I : WI d F m E at_ done) (hF : Found d F) {e p : PK} {more : List PK} (he : E[at_]? = some e) (hp : predsOf F e = done ++ p :: more) :
    ∃ x ∈ F, x.1 = p ∧ 0 < m p ∧ (m p = 1 → ∀ y ∈ x.2, y.2 ∈ E.take at_ ∨ y.2 = e) := by
  obtain ⟨x, hx, ex⟩ := preds_mem (F := F) (e := e) (p := p) (by rw [hp]; simp)
  subst ex
  have c1 := count_preds hF.nodup hx e
  rw [hp, List.count_append, List.count_cons_self] at c1
  have c2 := I.cnt x hx
  have hnot : e ∉ E.take at_ := fun hm => by
    obtain ⟨i, hi⟩ := List.getElem?_of_mem hm
    rw [List.getElem?_take] at hi
    by_cases h : i < at_
    · rw [if_pos h] at hi
      have := nodup_get_inj I.enodup hi he
      omega
    · rw [if_neg h] at hi
      cases hi
  have hs : (x.2.countP fun y => decide (y.2 ∉ E.take at_)) = (x.2.countP fun y => decide (y.2 = e)) + x.2.countP fun y => decide (y.2 ∉ E.take at_ ∧ y.2 ≠ e) := by
    refine countP_split fun y hy => ?_
    simp only [decide_eq_true_eq]
    constructor
    · constructor
      · intro h
        by_cases q : y.2 = e
        · exact .inl q
        · exact .inr ⟨h, q⟩
      · rintro (h | h)
        · rw [h]; exact hnot
        · exact h.1
    · rintro ⟨h1, h2⟩
      exact h2.2 h1
  refine ⟨x, hx, rfl, by omega, fun h1 y hy => ?_⟩
  have z : (x.2.countP fun y => decide (y.2 ∉ E.take at_ ∧ y.2 ≠ e)) = 0 := by omega
  have := countP_zero z y hy
  rw [decide_eq_false_iff_not] at this
  by_cases q1 : y.2 ∈ E.take at_
  · exact .inl q1
  · by_cases q2 : y.2 = e
    · exact .inr q2
    · exact (this ⟨q1, q2⟩).elim
def lessOne (m : PK → Int) (p : PK) : PK → Int := fun q => if q = p then m p - 1 else m q
theorem WI.less (I : WI d F m E at_ done) (hF : Found d F) {e p : PK} {more : List PK} (he : E[at_]? = some e) (hp : predsOf F e = done ++ p :: more) (hne : m p - 1 ≠ 0) : WI d F (lessOne m p) E at_ (done ++ [p]) := by
  obtain ⟨x, hx, ex, pos, _⟩ := I.pos hF he hp
  subst ex
  refine ⟨I.enodup, I.emem, fun z hz => ?_, fun z hz => ?_, I.dead⟩
  · unfold lessOne
    by_cases h : z.1 = x.1
    · rw [if_pos h]
      have : x.1 ∉ E := fun q => by have := (I.zero x hx).mpr q; omega
      rw [h]
      exact ⟨fun q => (hne q).elim, fun q => (this q).elim⟩
    · rw [if_neg h]
      exact I.zero z hz
  · unfold lessOne
    rw [List.count_append]
    by_cases h : z.1 = x.1
    · rw [if_pos h, ← h, I.cnt z hz]
      simp
      omega
    · rw [if_neg h, I.cnt z hz]
      have : List.count z.1 [x.1] = 0 := by
        rw [List.count_eq_zero]
        simpa using h
      omega
theorem take_append_lt {A : Type} {l m : List A} {n : Nat} (h : n ≤ l.length) : (l ++ m).take n = l.take n := by
  rw [List.take_append_of_le_length h]
theorem WI.ends (I : WI d F m E at_ done) (hF : Found d F) {e p : PK} {more : List PK} (he : E[at_]? = some e) (hp : predsOf F e = done ++ p :: more) (hz : m p - 1 = 0) : WI d F (lessOne m p) (E ++ [p]) at_ (done ++ [p]) := by
  obtain ⟨x, hx, ex, pos, last⟩ := I.pos hF he hp
  subst ex
  have hlt : at_ < E.length := (List.getElem?_eq_some_iff.mp he).1
  have hn : x.1 ∉ E := fun q => by have := (I.zero x hx).mpr q; omega
  have et : (E ++ [x.1]).take at_ = E.take at_ := take_append_lt (Nat.le_of_lt hlt)
  refine ⟨nodup_snoc I.enodup hn, fun p hp => ?_, fun z hz' => ?_, fun z hz' => ?_, fun p hp => ?_⟩
  · rcases List.mem_append.mp hp with h | h
    · exact I.emem p h
    · have e : p = x.1 := by simpa using h
      subst e
      exact List.mem_map.mpr ⟨x, hx, rfl⟩
  · unfold lessOne
    by_cases h : z.1 = x.1
    · rw [if_pos h, h]
      exact ⟨fun _ => by simp, fun _ => hz⟩
    · rw [if_neg h, I.zero z hz']
      simp [h]
  · rw [et]
    unfold lessOne
    rw [List.count_append]
    by_cases h : z.1 = x.1
    · rw [if_pos h, ← h, I.cnt z hz']
      simp
      omega
    · rw [if_neg h, I.cnt z hz']
      have : List.count z.1 [x.1] = 0 := by
        rw [List.count_eq_zero]
        simpa using h
      omega
  · rcases List.mem_append.mp hp with h | h
    · exact I.dead p h
    · have ep : p = x.1 := by simpa using h
      subst ep
      refine not_goes_of x.2 (fun c q h => ((hF.steps x hx).2 c q).mpr h) fun y hy => ?_
      rcases last (by omega) y hy with h | h
      · exact I.dead _ (List.mem_of_mem_take h)
      · rw [h]
        exact I.dead _ (List.mem_of_getElem? he)
theorem WI.turn (I : WI d F m E at_ done) (hF : Found d F) {e : PK} (he : E[at_]? = some e) (hp : predsOf F e = done) : WI d F m E (at_ + 1) [] := by
  refine ⟨I.enodup, I.emem, I.zero, fun x hx => ?_, I.dead⟩
  have c1 := count_preds hF.nodup hx e
  rw [hp] at c1
  have c2 := I.cnt x hx
  have et : E.take (at_ + 1) = E.take at_ ++ [e] := take_snoc he
  have hnot : e ∉ E.take at_ := fun hm => by
    obtain ⟨i, hi⟩ := List.getElem?_of_mem hm
    rw [List.getElem?_take] at hi
    by_cases h : i < at_
    · rw [if_pos h] at hi
      have := nodup_get_inj I.enodup hi he
      omega
    · rw [if_neg h] at hi
      cases hi
  have hs : (x.2.countP fun y => decide (y.2 ∉ E.take at_)) = (x.2.countP fun y => decide (y.2 = e)) + x.2.countP fun y => decide (y.2 ∉ E.take (at_ + 1)) := by
    refine countP_split fun y hy => ?_
    simp only [decide_eq_true_eq]
    rw [et]
    constructor
    · constructor
      · intro h
        by_cases q : y.2 = e
        · exact .inl q
        · exact .inr (by simp [h, q])
      · rintro (h | h)
        · rw [h]; exact hnot
        · intro z
          exact h (List.mem_append_left _ z)
    · rintro ⟨h1, h2⟩
      rw [h1] at h2
      exact h2 (by simp)
  rw [c2]
  simp
  simp at hs c1
  omega
theorem WI.fin (I : WI d F m E at_ done) (hF : Found d F) (hat : E.length ≤ at_) (hd : done = []) : ∀ x ∈ F, (m x.1 = 0 ↔ ¬ Goes d x.1) ∧ 0 ≤ m x.1 := by
  have et : E.take at_ = E := List.take_of_length_le hat
  have cnt : ∀ x ∈ F, m x.1 = ((x.2.countP fun y => decide (y.2 ∉ E) : Nat) : Int) := fun x hx => by
    have := I.cnt x hx
    rw [et, hd] at this
    simpa using this
  have go : ∀ p, (p ∈ F.map (·.1) ∧ p ∉ E) → Goes d p := fun p hp => by
    refine goes_of_closed (fun p => p ∈ F.map (·.1) ∧ p ∉ E) (fun p hp => ?_) hp
    obtain ⟨x, hx, e⟩ := List.mem_map.mp hp.1
    subst e
    have h1 : m x.1 ≠ 0 := fun q => hp.2 ((I.zero x hx).mp q)
    have h2 := cnt x hx
    have h3 : 0 < x.2.countP fun y => decide (y.2 ∉ E) := by omega
    obtain ⟨y, hy, hy2⟩ := List.countP_pos_iff.mp h3
    refine ⟨y.1, y.2, ((hF.steps x hx).2 y.1 y.2).mp hy, hF.closed x hx y hy, by simpa using hy2⟩
  intro x hx
  refine ⟨⟨fun h => I.dead _ ((I.zero x hx).mp h), fun h => (I.zero x hx).mpr ?_⟩, by rw [cnt x hx]; omega⟩
  by_cases q : x.1 ∈ E
  · exact q
  · exact (h (go x.1 ⟨List.mem_map.mpr ⟨x, hx, rfl⟩, q⟩)).elim
theorem WI.len (I : WI d F m E at_ done) : E.length ≤ F.length := by
  have := nodup_sub_len I.enodup I.emem
  rwa [List.length_map] at this
end

/-! ### the kind made of pairs -/
def rowOf (P : List PK) (l : Steps) : Row := l.filterMap fun y => (place P y.2).map fun k => (y.1, k)
theorem mem_rowOf {P : List PK} {l : Steps} {c k : Nat} : (c, k) ∈ rowOf P l ↔ ∃ q, (c, q) ∈ l ∧ place P q = some k := by
  unfold rowOf
  rw [List.mem_filterMap]
  constructor
  · rintro ⟨y, hy, h⟩
    cases e : place P y.2 with
    | none => rw [e] at h; cases h
    | some j =>
      rw [e] at h
      cases h
      exact ⟨y.2, hy, e⟩
  · rintro ⟨q, hq, e⟩
    exact ⟨(c, q), hq, by simp [e]⟩
theorem rowOf_nodup {P : List PK} : ∀ {l : Steps}, (l.map (·.1)).Nodup → ((rowOf P l).map (·.1)).Nodup
  | [], _ => List.nodup_nil
  | y :: l, h => by
    rw [List.map_cons, List.nodup_cons] at h
    have ih := rowOf_nodup (P := P) h.2
    unfold rowOf at ih ⊢
    rw [List.filterMap_cons]
    cases e : place P y.2 with
    | none => exact ih
    | some k =>
      show (((y.1, k) :: l.filterMap _).map (·.1)).Nodup
      rw [List.map_cons, List.nodup_cons]
      refine ⟨fun hm => ?_, ih⟩
      obtain ⟨z, hz, ez⟩ := List.mem_map.mp hm
      obtain ⟨u, hu, eu⟩ := List.mem_filterMap.mp hz
      cases q : place P u.2 with
      | none => rw [q] at eu; cases eu
      | some j =>
        rw [q] at eu
        cases eu
        exact h.1 (List.mem_map.mpr ⟨u, hu, ez⟩)
theorem lookup_rowOf {d : PK → Nat → Option PK} {P : List PK} {p : PK} {l : Steps} (h : IsSteps d p l) (c : Nat) : (rowOf P l).lookup c = (d p c).bind (place P) := by
  have hn := rowOf_nodup (P := P) h.1
  cases e : (d p c).bind (place P) with
  | some k =>
    refine lookup_of_mem hn (mem_rowOf.mpr ?_)
    cases e2 : d p c with
    | none => rw [e2] at e; cases e
    | some q =>
      rw [e2] at e
      exact ⟨q, (h.2 c q).mpr e2, e⟩
  | none =>
    cases e3 : (rowOf P l).lookup c with
    | none => rfl
    | some k =>
      obtain ⟨q, hq, hk⟩ := mem_rowOf.mp (lookup_mem e3)
      rw [(h.2 c q).mp hq] at e
      have e' : place P q = none := e
      rw [hk] at e'
      cases e'
/-- T's rows are those of the pairs P, in order -/
def IsTab (d : PK → Nat → Option PK) (P : List PK) (T : Tab) : Prop := T.length = P.length ∧ ∀ (i : Nat) (p : PK), P[i]? = some p → ∃ l, IsSteps d p l ∧ T[i]? = some (rowOf P l)
theorem IsTab.step {d : PK → Nat → Option PK} {P : List PK} {T : Tab} (h : IsTab d P T) {k : Nat} {p : PK} (hp : P[k]? = some p) (c : Nat) : stepT T k c = (d p c).bind (place P) := by
  obtain ⟨l, hl, e⟩ := h.2 k p hp
  unfold stepT
  rw [e]
  exact lookup_rowOf hl c
/-- what the kind made of the pairs P is -/
structure Made (d : PK → Nat → Option PK) (G : PK → Prop) (P : List PK) (T : Tab) : Prop where
  nodup : P.Nodup
  mem : ∀ p, p ∈ P ↔ Reach d pk0 p ∧ G p
  wf : WF T
  len : T.length = P.length
  runs : ∀ w, run T w = (runD d pk0 w).bind (place P)
theorem made_of {d : PK → Nat → Option PK} {G : PK → Prop} {P : List PK} {T : Tab} (hn : P.Nodup) (hm : ∀ p, p ∈ P ↔ Reach d pk0 p ∧ G p) (h0 : P[0]? = some pk0) (ht : IsTab d P T)
    (hb : ∀ p q c, Reach d pk0 p → d p c = some q → G q → G p) (hon : ∀ p, Reach d pk0 p → G p → ∃ c q, d p c = some q ∧ G q) (hlet : ∀ p c q, d p c = some q → 97 ≤ c ∧ c ≤ 122) : Made d G P T := by
  have hp0 : place P pk0 = some 0 := place_of_get hn h0
  refine ⟨hn, hm, ⟨by rw [ht.1]; exact (List.getElem?_eq_some_iff.mp h0).1, fun r hr => ?_⟩, ht.1, fun w => ?_⟩
  · obtain ⟨i, hi⟩ := List.getElem?_of_mem hr
    have hlt := (List.getElem?_eq_some_iff.mp hi).1
    rw [ht.1] at hlt
    obtain ⟨l, hl, e⟩ := ht.2 i P[i] (List.getElem?_eq_getElem hlt)
    rw [hi] at e
    cases e
    have hP := (hm P[i]).mp (List.getElem_mem hlt)
    refine ⟨?_, rowOf_nodup hl.1, fun x hx => ?_⟩
    · obtain ⟨c, q, e, hq⟩ := hon _ hP.1 hP.2
      obtain ⟨k, hk⟩ := place_mem ((hm q).mpr ⟨hP.1.step e, hq⟩)
      intro z
      have : (c, k) ∈ rowOf P l := mem_rowOf.mpr ⟨q, (hl.2 c q).mpr e, hk⟩
      rw [z] at this
      exact nomatch this
    · obtain ⟨q, hq, hk⟩ := mem_rowOf.mp (show (x.1, x.2) ∈ rowOf P l from hx)
      exact ⟨hlet _ _ _ ((hl.2 _ _).mp hq), by rw [ht.1]; exact place_lt hk⟩
  · have key : ∀ (n : Nat) (w : List Nat), w.length = n → run T w = (runD d pk0 w).bind (place P) := by
      intro n
      induction n with
      | zero =>
        intro w hl
        have e : w = [] := List.length_eq_zero_iff.mp hl
        subst e
        exact hp0.symm
      | succ n ih =>
        intro w hl
        obtain ⟨u, c, e⟩ := exists_snoc hl
        subst e
        unfold run
        rw [runD_snoc, runD_snoc]
        have hu := ih u (by simpa using hl)
        unfold run at hu
        rw [hu]
        cases e : runD d pk0 u with
        | none => rfl
        | some p =>
          show ((place P p).bind fun q => stepT T q c) = (d p c).bind (place P)
          cases e2 : place P p with
          | some k => exact ht.step (place_some e2) c
          | none =>
            show none = (d p c).bind (place P)
            cases e3 : d p c with
            | none => rfl
            | some q =>
              show none = place P q
              cases e4 : place P q with
              | none => rfl
              | some k =>
                have hr : Reach d pk0 p := ⟨u, e⟩
                have hq := (hm q).mp (List.mem_of_getElem? (place_some e4))
                have := (hm p).mpr ⟨hr, hb p q c hr e3 hq.2⟩
                exact (place_none e2 this).elim
    exact key _ w rfl
end KW
/-! KwKinds: which weathers the made kinds have; how many rows; rings, the chain. -/
namespace KW
/-- w is of both and can go on so -/
def Both (T U : Tab) (w : List Nat) : Prop := ∀ n : Nat, ∃ v : List Nat, v.length = n ∧ Of T (w ++ v) ∧ Of U (w ++ v)
abbrev MadeE (T U : Tab) (P : List PK) (W : Tab) : Prop := Made (dE T U) (fun _ => True) P W
abbrev MadeB (T U : Tab) (P : List PK) (W : Tab) : Prop := Made (dB T U) (Goes (dB T U)) P W
theorem Both.symm {T U : Tab} {w : List Nat} (h : Both T U w) : Both U T w := fun n =>
  let ⟨v, a, b, c⟩ := h n; ⟨v, a, c, b⟩
theorem Of.init {T : Tab} {w v : List Nat} (h : Of T (w ++ v)) : Of T w := by
  unfold Of run at h ⊢
  rw [runD_append] at h
  cases e : runD (stepT T) 0 w with
  | none => rw [e] at h; simp at h
  | some q => rfl
theorem Both.of {T U : Tab} {w : List Nat} (h : Both T U w) : Of T w ∧ Of U w := by
  obtain ⟨v, _, a, b⟩ := h 0
  exact ⟨a.init, b.init⟩
theorem Both.start {T U : Tab} {w : List Nat} (h : Both T U w) : Both T U [] := fun n => by
  obtain ⟨v, hl, a, b⟩ := h n
  -- the first n letters of w ++ v
  refine ⟨(w ++ v).take n, by rw [List.length_take, List.length_append]; omega, ?_, ?_⟩
  · have e : w ++ v = ([] ++ (w ++ v).take n) ++ (w ++ v).drop n := by rw [List.nil_append, List.take_append_drop]
    rw [e] at a
    exact a.init
  · have e : w ++ v = ([] ++ (w ++ v).take n) ++ (w ++ v).drop n := by rw [List.nil_append, List.take_append_drop]
    rw [e] at b
    exact b.init
theorem madeE_of {T U W : Tab} {P : List PK} (h : MadeE T U P W) (w : List Nat) : Of W w ↔ Of T w ∨ Of U w := by
  unfold Of
  rw [h.runs, runE0]
  cases e : joinE (run T w) (run U w) with
  | none =>
    obtain ⟨h1, h2⟩ := joinE_none.mp e
    rw [h1, h2]
    simp
  | some p =>
    obtain ⟨_, h1⟩ := joinE_some e
    have hm : p ∈ P := (h.mem p).mpr ⟨⟨w, by rw [runE0]; exact e⟩, trivial⟩
    obtain ⟨k, hk⟩ := place_mem hm
    constructor
    · intro _
      rcases h1 with h1 | h1
      · exact .inl (Option.isSome_iff_ne_none.mpr h1)
      · exact .inr (Option.isSome_iff_ne_none.mpr h1)
    · intro _
      show (place P p).isSome = true
      rw [hk]
      rfl
theorem of_append {T : Tab} {w v : List Nat} {i : Nat} (h : run T w = some i) : Of T (w ++ v) ↔ (runD (stepT T) i v).isSome = true := by
  unfold Of run
  rw [runD_append]
  unfold run at h
  rw [h]
  exact Iff.rfl
theorem goesB {T U : Tab} {w : List Nat} {p : PK} (h : runD (dB T U) pk0 w = some p) : Goes (dB T U) p ↔ Both T U w := by
  rw [runB0] at h
  obtain ⟨e, i, j, h1, h2⟩ := joinB_some h
  rw [h1, h2] at e
  subst e
  have key : ∀ v : List Nat, (runD (dB T U) (some i, some j) v).isSome = true ↔ Of T (w ++ v) ∧ Of U (w ++ v) := fun v => by
    rw [runB, of_append h1, of_append h2]
    cases runD (stepT T) i v <;> cases runD (stepT U) j v <;> simp [joinB]
  exact forall_congr' fun n => exists_congr fun v => and_congr_right fun _ => key v
theorem goesB0 {T U : Tab} : Goes (dB T U) pk0 ↔ Both T U [] := goesB rfl
theorem madeB_of {T U W : Tab} {P : List PK} (h : MadeB T U P W) (w : List Nat) : Of W w ↔ Both T U w := by
  unfold Of
  rw [h.runs]
  cases e : runD (dB T U) pk0 w with
  | none =>
    constructor
    · intro q; simp at q
    · intro q
      obtain ⟨a, b⟩ := q.of
      rw [runB0] at e
      rw [joinB_none] at e
      unfold Of at a b
      rcases e with e | e
      · rw [e] at a; simp at a
      · rw [e] at b; simp at b
  | some p =>
    rw [← goesB e]
    show (place P p).isSome = true ↔ _
    rw [place_isSome, h.mem p]
    exact ⟨fun q => q.2, fun q => ⟨⟨w, e⟩, q⟩⟩
theorem pairsB_empty {T U : Tab} {P : List PK} (h : ∀ p, p ∈ P ↔ Reach (dB T U) pk0 p ∧ Goes (dB T U) p) : P = [] ↔ ¬ Both T U [] := by
  rw [← goesB0]
  constructor
  · intro e g
    have := (h pk0).mpr ⟨Reach.refl _ _, g⟩
    rw [e] at this
    exact nomatch this
  · intro g
    cases P with
    | nil => rfl
    | cons p P =>
      obtain ⟨⟨w, hw⟩, hg⟩ := (h p).mp List.mem_cons_self
      exact (g (Goes.backs hw hg)).elim
/-- what both gives: no kind where no weather goes on -/
def BothRes (T U : Tab) : Option Tab → Prop
  | none => ¬ Both T U []
  | some W => WF W ∧ ∀ w, Of W w ↔ Both T U w

/-! ### the laws of both and either -/
theorem both_self {T : Tab} (h : WF T) (w : List Nat) : Both T T w ↔ Of T w := by
  constructor
  · intro q
    exact q.of.1
  · intro q n
    obtain ⟨i, hi⟩ := Option.isSome_iff_exists.mp q
    have hlt : i < T.length := h.run_lt h.pos hi
    have g : Goes (stepT T) i := goes_of_closed (fun i => i < T.length) (fun i hi => by
      obtain ⟨c, j, e⟩ := h.on hi
      exact ⟨c, j, e, h.step_lt e⟩) hlt
    obtain ⟨v, hl, hv⟩ := g n
    have := (of_append (v := v) hi).mpr hv
    exact ⟨v, hl, this, this⟩
/-- weathers as long as one likes of two kinds: of one of them there are such -/
theorem both_either {A B C W : Tab} (hW : ∀ w, Of W w ↔ Of A w ∨ Of B w) (w : List Nat) : Both W C w ↔ Both A C w ∨ Both B C w := by
  constructor
  · intro h
    refine Classical.byContradiction fun no => ?_
    have n1 : ¬ Both A C w := fun q => no (.inl q)
    have n2 : ¬ Both B C w := fun q => no (.inr q)
    obtain ⟨n, hn⟩ := Classical.not_forall.mp n1
    obtain ⟨m, hm⟩ := Classical.not_forall.mp n2
    obtain ⟨v, hl, h1, h2⟩ := h (max n m)
    have cut : ∀ (X : Tab) (k : Nat), k ≤ max n m → Of X (w ++ v) → Of X (w ++ v.take k) := fun X k _ hx => by
      have e : w ++ v = (w ++ v.take k) ++ v.drop k := by rw [List.append_assoc, List.take_append_drop]
      rw [e] at hx
      exact hx.init
    rcases (hW _).mp h1 with h1 | h1
    · exact hn ⟨v.take n, by rw [List.length_take]; omega, cut A n (by omega) h1, cut C n (by omega) h2⟩
    · exact hm ⟨v.take m, by rw [List.length_take]; omega, cut B m (by omega) h1, cut C m (by omega) h2⟩
  · rintro (h | h) n
    · obtain ⟨v, hl, h1, h2⟩ := h n
      exact ⟨v, hl, (hW _).mpr (.inl h1), h2⟩
    · obtain ⟨v, hl, h1, h2⟩ := h n
      exact ⟨v, hl, (hW _).mpr (.inr h1), h2⟩

/-! ### how many rows -/
theorem reachB_shape {T U : Tab} (hT : WF T) (hU : WF U) {p : PK} (h : Reach (dB T U) pk0 p) : ∃ i j, p = (some i, some j) ∧ i < T.length ∧ j < U.length := by
  obtain ⟨w, hw⟩ := h
  rw [runB0] at hw
  obtain ⟨e, i, j, h1, h2⟩ := joinB_some hw
  rw [h1, h2] at e
  exact ⟨i, j, e, hT.run_lt hT.pos h1, hU.run_lt hU.pos h2⟩
theorem reachE_shape {T U : Tab} (hT : WF T) (hU : WF U) {p : PK} (h : Reach (dE T U) pk0 p) : (∀ i, p.1 = some i → i < T.length) ∧ (∀ j, p.2 = some j → j < U.length) ∧ (p.1 ≠ none ∨ p.2 ≠ none) := by
  obtain ⟨w, hw⟩ := h
  rw [runE0] at hw
  obtain ⟨e, h1⟩ := joinE_some hw
  subst e
  exact ⟨fun i hi => hT.run_lt hT.pos hi, fun j hj => hU.run_lt hU.pos hj, h1⟩
def optR (n : Nat) : List (Option Nat) := none :: (List.range n).map some
theorem mem_optR {n : Nat} {x : Option Nat} : x ∈ optR n ↔ ∀ i, x = some i → i < n := by
  unfold optR
  cases x with
  | none => simp
  | some i => simp
theorem optR_len (n : Nat) : (optR n).length = n + 1 := by
  unfold optR
  simp
def allPairs (xs ys : List (Option Nat)) : List PK := xs.flatMap fun x => ys.map fun y => (x, y)
theorem mem_allPairs {xs ys : List (Option Nat)} {p : PK} : p ∈ allPairs xs ys ↔ p.1 ∈ xs ∧ p.2 ∈ ys := by
  unfold allPairs
  rw [List.mem_flatMap]
  constructor
  · rintro ⟨x, hx, h⟩
    obtain ⟨y, hy, e⟩ := List.mem_map.mp h
    subst e
    exact ⟨hx, hy⟩
  · rintro ⟨h1, h2⟩
    exact ⟨p.1, h1, List.mem_map.mpr ⟨p.2, h2, rfl⟩⟩
theorem len_flatMap_const {A B : Type} {f : A → List B} {k : Nat} : ∀ {l : List A}, (∀ x ∈ l, (f x).length = k) → (l.flatMap f).length = l.length * k
  | [], _ => by simp
  | a :: l, h => by
    rw [List.flatMap_cons, List.length_append, h a List.mem_cons_self, len_flatMap_const fun x hx => h x (List.mem_cons_of_mem _ hx), List.length_cons, Nat.succ_mul]
    omega
theorem allPairs_len (xs ys : List (Option Nat)) : (allPairs xs ys).length = xs.length * ys.length := len_flatMap_const fun x _ => by simp
/-- a world of pairs in which all that are come to lie -/
def univ (T U : Tab) : List PK := allPairs (optR T.length) (optR U.length)
theorem univ_len (T U : Tab) : (univ T U).length = (T.length + 1) * (U.length + 1) := by
  unfold univ
  rw [allPairs_len, optR_len, optR_len]
theorem univE {T U : Tab} (hT : WF T) (hU : WF U) {p : PK} (h : Reach (dE T U) pk0 p) : p ∈ univ T U := by
  obtain ⟨h1, h2, _⟩ := reachE_shape hT hU h
  exact mem_allPairs.mpr ⟨mem_optR.mpr h1, mem_optR.mpr h2⟩
theorem univB {T U : Tab} (hT : WF T) (hU : WF U) {p : PK} (h : Reach (dB T U) pk0 p) : p ∈ univ T U := by
  obtain ⟨i, j, e, h1, h2⟩ := reachB_shape hT hU h
  subst e
  exact mem_allPairs.mpr ⟨mem_optR.mpr fun k hk => by cases hk; exact h1, mem_optR.mpr fun k hk => by cases hk; exact h2⟩
theorem lenE {T U : Tab} (hT : WF T) (hU : WF U) {P : List PK} (hn : P.Nodup) (h : ∀ p ∈ P, Reach (dE T U) pk0 p) : P.length ≤ (T.length + 1) * (U.length + 1) := by
  rw [← univ_len]
  exact nodup_sub_len hn fun p hp => univE hT hU (h p hp)
theorem lenB {T U : Tab} (hT : WF T) (hU : WF U) {P : List PK} (hn : P.Nodup) (h : ∀ p ∈ P, Reach (dB T U) pk0 p) : P.length ≤ T.length * U.length := by
  have e : (allPairs ((List.range T.length).map some) ((List.range U.length).map some)).length = T.length * U.length := by
    rw [allPairs_len]
    simp
  rw [← e]
  refine nodup_sub_len hn fun p hp => ?_
  obtain ⟨i, j, e, h1, h2⟩ := reachB_shape hT hU (h p hp)
  subst e
  exact mem_allPairs.mpr ⟨by simp [h1], by simp [h2]⟩
/-- either of two kinds that were made with the same third one -/
theorem len3 {A B C X Y : Tab} {P1 P2 P : List PK} (hA : WF A) (hB : WF B) (hC : WF C) (h1 : MadeB A C P1 X) (h2 : MadeB B C P2 Y) (la : A.length ≤ 5) (lb : B.length ≤ 5) (lc : C.length ≤ 5)
    (hn : P.Nodup) (h : ∀ p ∈ P, Reach (dE X Y) pk0 p) : P.length ≤ 216 := by
  let O := optR 5
  let M : List (Option Nat × PK) := O.flatMap fun x => (allPairs O O).map fun y => (x, y)
  have hM : M.length = 216 := by
    show (O.flatMap fun x => (allPairs O O).map fun y => (x, y)).length = 216
    rw [len_flatMap_const (k := 36) fun x _ => by rw [List.length_map, allPairs_len, optR_len], optR_len]
  rw [← hM]
  refine nodup_image_len (fun z : Option Nat × PK => ((joinB z.1 z.2.2).bind (place P1), (joinB z.2.1 z.2.2).bind (place P2))) hn fun p hp => ?_
  obtain ⟨w, hw⟩ := h p hp
  rw [runE0] at hw
  obtain ⟨e, _⟩ := joinE_some hw
  subst e
  have inO : ∀ (T : Tab), WF T → T.length ≤ 5 → run T w ∈ O := fun T hT hl => mem_optR.mpr fun i hi => Nat.lt_of_lt_of_le (hT.run_lt hT.pos hi) hl
  refine ⟨(run A w, (run B w, run C w)), ?_, ?_⟩
  · exact List.mem_flatMap.mpr ⟨run A w, inO A hA la, List.mem_map.mpr ⟨(run B w, run C w), mem_allPairs.mpr ⟨inO B hB lb, inO C hC lc⟩, rfl⟩⟩
  · show ((joinB (run A w) (run C w)).bind (place P1), (joinB (run B w) (run C w)).bind (place P2)) = (run X w, run Y w)
    rw [h1.runs, h2.runs, runB0, runB0]

/-! ### rings -/
def ringT (c n : Nat) : Tab := (List.range n).map fun k => [(c, (k + 1) % n)]
theorem ring_len (c n : Nat) : (ringT c n).length = n := by simp [ringT]
theorem ring_step {c n i e : Nat} (hi : i < n) : stepT (ringT c n) i e = if e = c then some ((i + 1) % n) else none := by
  unfold stepT ringT
  rw [List.getElem?_map, List.getElem?_range hi]
  show List.lookup e [(c, (i + 1) % n)] = _
  rw [List.lookup_cons]
  by_cases h : e = c
  · simp [h]
  · have : (e == c) = false := by simpa using h
    rw [this, if_neg h]
    rfl
theorem ring_wf {c n : Nat} (hn : 0 < n) (hc : 97 ≤ c ∧ c ≤ 122) : WF (ringT c n) := by
  refine ⟨by rw [ring_len]; exact hn, fun r hr => ?_⟩
  obtain ⟨k, hk, e⟩ := List.mem_map.mp hr
  subst e
  refine ⟨by simp, by simp, fun x hx => ?_⟩
  have ex : x = (c, (k + 1) % n) := by simpa using hx
  subst ex
  exact ⟨hc, by rw [ring_len]; exact Nat.mod_lt _ hn⟩
theorem ring_run {c n : Nat} (hn : 0 < n) : ∀ (w : List Nat) (i : Nat), i < n → runD (stepT (ringT c n)) i w = if (∀ e ∈ w, e = c) then some ((i + w.length) % n) else none
  | [], i, hi => by
    rw [if_pos (fun e h => nomatch h)]
    show some i = _
    rw [List.length_nil, Nat.add_zero, Nat.mod_eq_of_lt hi]
  | e :: w, i, hi => by
    show ((stepT (ringT c n) i e).bind fun q => runD (stepT (ringT c n)) q w) = _
    rw [ring_step hi]
    by_cases h : e = c
    · rw [if_pos h]
      show runD (stepT (ringT c n)) ((i + 1) % n) w = _
      rw [ring_run hn w _ (Nat.mod_lt _ hn)]
      by_cases hw : ∀ x ∈ w, x = c
      · rw [if_pos hw, if_pos (fun x hx => (List.mem_cons.mp hx).elim (fun z => z.trans h) (hw x))]
        rw [List.length_cons, Nat.mod_add_mod]
        congr 2
        omega
      · rw [if_neg hw, if_neg fun q => hw fun x hx => q x (List.mem_cons_of_mem _ hx)]
    · rw [if_neg h, if_neg fun q => h (q e List.mem_cons_self)]
      rfl
theorem ring_run0 {c n : Nat} (hn : 0 < n) (w : List Nat) : run (ringT c n) w = if (∀ e ∈ w, e = c) then some (w.length % n) else none := by
  rw [show run (ringT c n) w = runD (stepT (ringT c n)) 0 w from rfl, ring_run hn w 0 hn, Nat.zero_add]
theorem all_rep {c k : Nat} : ∀ e ∈ List.replicate k c, e = c := fun e h => (List.mem_replicate.mp h).2
/-- the pairs of two rings of one letter -/
def ringPairs (m n : Nat) : List PK := (List.range (Nat.lcm m n)).map fun k => (some (k % m), some (k % n))
theorem ringPairs_nodup {m n : Nat} : (ringPairs m n).Nodup := by
  refine nodup_map_on _ List.nodup_range fun x hx y hy e => ?_
  have e1 : x % m = y % m := by simpa using congrArg Prod.fst e
  have e2 : x % n = y % n := by simpa using congrArg Prod.snd e
  rw [List.mem_range] at hx hy
  -- the difference is a multiple of both
  have key : ∀ {a b : Nat}, a ≤ b → b < Nat.lcm m n → a % m = b % m → a % n = b % n → a = b := by
    intro a b hab hb h1 h2
    have d1 : m ∣ b - a := by
      refine (Nat.dvd_of_mod_eq_zero ?_)
      have : b = a + (b - a) := by omega
      exact Nat.sub_mod_eq_zero_of_mod_eq h1.symm
    have d2 : n ∣ b - a := Nat.dvd_of_mod_eq_zero (Nat.sub_mod_eq_zero_of_mod_eq h2.symm)
    have d3 := Nat.lcm_dvd d1 d2
    rcases Nat.eq_zero_or_pos (b - a) with z | z
    · omega
    · have := Nat.le_of_dvd z d3
      omega
  rcases Nat.le_total x y with h | h
  · exact key h hy e1 e2
  · exact (key h hx e1.symm e2.symm).symm
theorem ringPairs_mem {m n : Nat} (hm : 0 < m) (hn : 0 < n) (k : Nat) : ((some (k % m), some (k % n)) : PK) ∈ ringPairs m n := by
  unfold ringPairs
  refine List.mem_map.mpr ⟨k % Nat.lcm m n, List.mem_range.mpr (Nat.mod_lt _ (Nat.lcm_pos hm hn)), ?_⟩
  rw [Nat.mod_mod_of_dvd _ (Nat.dvd_lcm_left m n), Nat.mod_mod_of_dvd _ (Nat.dvd_lcm_right m n)]
theorem ringE_reach {c m n : Nat} (hm : 0 < m) (hn : 0 < n) (p : PK) : Reach (dE (ringT c m) (ringT c n)) pk0 p ↔ p ∈ ringPairs m n := by
  constructor
  · rintro ⟨w, hw⟩
    rw [runE0, ring_run0 hm, ring_run0 hn] at hw
    by_cases h : ∀ e ∈ w, e = c
    · rw [if_pos h, if_pos h] at hw
      cases hw
      exact ringPairs_mem hm hn _
    · rw [if_neg h, if_neg h] at hw
      cases hw
  · intro h
    obtain ⟨k, _, e⟩ := List.mem_map.mp h
    subst e
    refine ⟨List.replicate k c, ?_⟩
    rw [runE0, ring_run0 hm, ring_run0 hn, if_pos all_rep, if_pos all_rep, List.length_replicate]
    rfl
theorem ringB_reach {c m n : Nat} (hm : 0 < m) (hn : 0 < n) (p : PK) : (Reach (dB (ringT c m) (ringT c n)) pk0 p ∧ Goes (dB (ringT c m) (ringT c n)) p) ↔ p ∈ ringPairs m n := by
  constructor
  · rintro ⟨⟨w, hw⟩, _⟩
    rw [runB0, ring_run0 hm, ring_run0 hn] at hw
    by_cases h : ∀ e ∈ w, e = c
    · rw [if_pos h, if_pos h] at hw
      cases hw
      exact ringPairs_mem hm hn _
    · rw [if_neg h, if_neg h] at hw
      cases hw
  · intro h
    obtain ⟨k, _, e⟩ := List.mem_map.mp h
    subst e
    have hr : runD (dB (ringT c m) (ringT c n)) pk0 (List.replicate k c) = some (some (k % m), some (k % n)) := by
      rw [runB0, ring_run0 hm, ring_run0 hn, if_pos all_rep, if_pos all_rep, List.length_replicate]
      rfl
    refine ⟨⟨_, hr⟩, (goesB hr).mpr fun l => ⟨List.replicate l c, List.length_replicate .., ?_, ?_⟩⟩
    · unfold Of
      rw [ring_run0 hm, if_pos fun e he => (List.mem_append.mp he).elim (all_rep e) (all_rep e)]
      rfl
    · unfold Of
      rw [ring_run0 hn, if_pos fun e he => (List.mem_append.mp he).elim (all_rep e) (all_rep e)]
      rfl
theorem ringPairs_len (m n : Nat) : (ringPairs m n).length = Nat.lcm m n := by simp [ringPairs]
theorem ringE_count {c m n : Nat} (hm : 0 < m) (hn : 0 < n) {P : List PK} (hP : P.Nodup) (h : ∀ p, p ∈ P ↔ Reach (dE (ringT c m) (ringT c n)) pk0 p ∧ True) : P.length = Nat.lcm m n := by
  rw [← ringPairs_len]
  exact nodup_same_len hP ringPairs_nodup fun p => by rw [h p, and_true, ringE_reach hm hn]
theorem ringB_count {c m n : Nat} (hm : 0 < m) (hn : 0 < n) {P : List PK} (hP : P.Nodup) (h : ∀ p, p ∈ P ↔ Reach (dB (ringT c m) (ringT c n)) pk0 p ∧ Goes (dB (ringT c m) (ringT c n)) p) : P.length = Nat.lcm m n := by
  rw [← ringPairs_len]
  exact nodup_same_len hP ringPairs_nodup fun p => by rw [h p, ringB_reach hm hn]
/-- the loop that looks for it -/
theorem lcm_of_loop {m n t : Nat} (ht : 0 < t) (hno : ∀ j, 0 < j → j < t → ¬ (m * j) % n = 0) (hyes : (m * t) % n = 0) (hm : 0 < m) : Nat.lcm m n = m * t := by
  have d1 : Nat.lcm m n ∣ m * t := Nat.lcm_dvd (Nat.dvd_mul_right m t) (Nat.dvd_of_mod_eq_zero hyes)
  obtain ⟨j, hj⟩ := Nat.dvd_lcm_left m n
  rw [hj] at d1 ⊢
  have hn : n ∣ m * j := by rw [← hj]; exact Nat.dvd_lcm_right m n
  have hle := Nat.le_of_dvd (Nat.mul_pos hm ht) d1
  have hjt : j ≤ t := Nat.le_of_mul_le_mul_left hle hm
  rcases Nat.eq_zero_or_pos j with z | z
  · subst z
    rw [Nat.mul_zero] at d1
    have := Nat.eq_zero_of_zero_dvd d1
    have h2 := Nat.mul_pos hm ht
    omega
  · rcases Nat.lt_or_eq_of_le hjt with h | h
    · exact (hno j z h (Nat.mod_eq_zero_of_dvd hn)).elim
    · rw [h]

/-! ### two rings of unlike letters -/
def unlikePairs (m n : Nat) : List PK := (some 0, some 0) :: ((List.range m).map fun i => (some i, none)) ++ (List.range n).map fun j => (none, some j)
theorem unlikePairs_len (m n : Nat) : (unlikePairs m n).length = 1 + m + n := by
  simp [unlikePairs]
  omega
theorem unlikePairs_nodup (m n : Nat) : (unlikePairs m n).Nodup := by
  unfold unlikePairs
  rw [List.cons_append, List.nodup_cons, List.nodup_append]
  refine ⟨by simp, nodup_map_on _ List.nodup_range fun x _ y _ e => by simpa using e, nodup_map_on _ List.nodup_range fun x _ y _ e => by simpa using e, ?_⟩
  intro a ha b hb e
  obtain ⟨i, _, h1⟩ := List.mem_map.mp ha
  obtain ⟨j, _, h2⟩ := List.mem_map.mp hb
  subst h1
  rw [← h2] at e
  cases e
theorem unlike_reach {c d m n : Nat} (hcd : c ≠ d) (hm : 0 < m) (hn : 0 < n) (p : PK) : Reach (dE (ringT c m) (ringT d n)) pk0 p ↔ p ∈ unlikePairs m n := by
  unfold unlikePairs
  rw [List.cons_append, List.mem_cons, List.mem_append]
  constructor
  · rintro ⟨w, hw⟩
    rw [runE0, ring_run0 hm, ring_run0 hn] at hw
    cases w with
    | nil =>
      rw [if_pos (fun e h => nomatch h), if_pos (fun e h => nomatch h)] at hw
      cases hw
      left
      simp
    | cons x w =>
      by_cases h : ∀ e ∈ x :: w, e = c
      · have h2 : ¬ ∀ e ∈ x :: w, e = d := fun q => hcd ((h x List.mem_cons_self).symm.trans (q x List.mem_cons_self))
        rw [if_pos h, if_neg h2] at hw
        cases hw
        exact .inr (.inl (List.mem_map.mpr ⟨_, List.mem_range.mpr (Nat.mod_lt _ hm), rfl⟩))
      · rw [if_neg h] at hw
        by_cases h2 : ∀ e ∈ x :: w, e = d
        · rw [if_pos h2] at hw
          cases hw
          exact .inr (.inr (List.mem_map.mpr ⟨_, List.mem_range.mpr (Nat.mod_lt _ hn), rfl⟩))
        · rw [if_neg h2] at hw
          cases hw
  · rintro (h | h | h)
    · subst h
      exact Reach.refl _ _
    · obtain ⟨i, hi, e⟩ := List.mem_map.mp h
      subst e
      rw [List.mem_range] at hi
      refine ⟨List.replicate (i + m) c, ?_⟩
      have h2 : ¬ ∀ e ∈ List.replicate (i + m) c, e = d := fun q => hcd (q c (List.mem_replicate.mpr ⟨by omega, rfl⟩))
      rw [runE0, ring_run0 hm, ring_run0 hn, if_pos all_rep, if_neg h2, List.length_replicate, Nat.add_mod_right, Nat.mod_eq_of_lt hi]
      rfl
    · obtain ⟨j, hj, e⟩ := List.mem_map.mp h
      subst e
      rw [List.mem_range] at hj
      refine ⟨List.replicate (j + n) d, ?_⟩
      have h2 : ¬ ∀ e ∈ List.replicate (j + n) d, e = c := fun q => hcd (q d (List.mem_replicate.mpr ⟨by omega, rfl⟩)).symm
      rw [runE0, ring_run0 hm, ring_run0 hn, if_pos all_rep, if_neg h2, List.length_replicate, Nat.add_mod_right, Nat.mod_eq_of_lt hj]
      rfl
theorem unlike_count {c d m n : Nat} (hcd : c ≠ d) (hm : 0 < m) (hn : 0 < n) {P : List PK} (hP : P.Nodup) (h : ∀ p, p ∈ P ↔ Reach (dE (ringT c m) (ringT d n)) pk0 p ∧ True) : P.length = 1 + m + n := by
  rw [← unlikePairs_len]
  exact nodup_same_len hP (unlikePairs_nodup m n) fun p => by rw [h p, and_true, unlike_reach hcd hm hn]

/-! ### the chain and the kind beside it -/
def chainT (a b c N : Nat) (short : Bool) : Tab := (List.range N).map (fun k => if k = 0 ∧ short = false then [(b, 1), (a, 0)] else [(b, k + 1)]) ++ [[(c, N)]]
def besideT (a b : Nat) : Tab := [[(a, 0), (b, 1)], [(b, 1)]]
theorem chain_len (a b c N : Nat) (sh : Bool) : (chainT a b c N sh).length = N + 1 := by simp [chainT]
theorem chain_wf {a b c N : Nat} {sh : Bool} (hN : 0 < N) (hab : a ≠ b) (ha : 97 ≤ a ∧ a ≤ 122) (hb : 97 ≤ b ∧ b ≤ 122) (hc : 97 ≤ c ∧ c ≤ 122) : WF (chainT a b c N sh) := by
  refine ⟨by rw [chain_len]; omega, fun r hr => ?_⟩
  rw [chain_len]
  unfold chainT at hr
  rcases List.mem_append.mp hr with h | h
  · obtain ⟨k, hk, e⟩ := List.mem_map.mp h
    rw [List.mem_range] at hk
    by_cases q : k = 0 ∧ sh = false
    · rw [if_pos q] at e
      subst e
      refine ⟨by simp, by simp [Ne.symm hab], fun x hx => ?_⟩
      have hx' : x = (b, 1) ∨ x = (a, 0) := by simpa using hx
      rcases hx' with e | e
      · subst e; exact ⟨hb, by omega⟩
      · subst e; exact ⟨ha, by omega⟩
    · rw [if_neg q] at e
      subst e
      refine ⟨by simp, by simp, fun x hx => ?_⟩
      have ex : x = (b, k + 1) := by simpa using hx
      subst ex
      exact ⟨hb, by omega⟩
  · have e : r = [(c, N)] := by simpa using h
    subst e
    refine ⟨by simp, by simp, fun x hx => ?_⟩
    have ex : x = (c, N) := by simpa using hx
    subst ex
    exact ⟨hc, by omega⟩
theorem beside_wf {a b : Nat} (hab : a ≠ b) (ha : 97 ≤ a ∧ a ≤ 122) (hb : 97 ≤ b ∧ b ≤ 122) : WF (besideT a b) := by
  refine ⟨by simp [besideT], fun r hr => ?_⟩
  have hr' : r = [(a, 0), (b, 1)] ∨ r = [(b, 1)] := by simpa [besideT] using hr
  rcases hr' with e | e
  · subst e
    refine ⟨by simp, by simp [hab], fun x hx => ?_⟩
    have hx' : x = (a, 0) ∨ x = (b, 1) := by simpa using hx
    rcases hx' with e | e
    · subst e; exact ⟨ha, by simp [besideT]⟩
    · subst e; exact ⟨hb, by simp [besideT]⟩
  · subst e
    refine ⟨by simp, by simp, fun x hx => ?_⟩
    have ex : x = (b, 1) := by simpa using hx
    subst ex
    exact ⟨hb, by simp [besideT]⟩
theorem chain_step {a b c N i e : Nat} {sh : Bool} (h : 0 < i ∨ sh = true) (hi : i < N) : stepT (chainT a b c N sh) i e = if e = b then some (i + 1) else none := by
  unfold stepT chainT
  rw [List.getElem?_append_left (by simp [hi]), List.getElem?_map, List.getElem?_range hi]
  have q : ¬ (i = 0 ∧ sh = false) := by
    rintro ⟨h1, h2⟩
    rcases h with h | h
    · omega
    · rw [h2] at h; cases h
  show List.lookup e (if i = 0 ∧ sh = false then [(b, 1), (a, 0)] else [(b, i + 1)]) = _
  rw [if_neg q, List.lookup_cons]
  by_cases z : e = b
  · simp [z]
  · have : (e == b) = false := by simpa using z
    rw [this, if_neg z]
    rfl
theorem chain_last {a b c N e : Nat} {sh : Bool} : stepT (chainT a b c N sh) N e = if e = c then some N else none := by
  unfold stepT chainT
  rw [List.getElem?_append_right (by simp)]
  simp
theorem chain_first {a b c N e : Nat} (hN : 0 < N) (hab : a ≠ b) : stepT (chainT a b c N false) 0 e = if e = b then some 1 else if e = a then some 0 else none := by
  unfold stepT chainT
  rw [List.getElem?_append_left (by simp [hN]), List.getElem?_map, List.getElem?_range hN]
  show List.lookup e (if (0 : Nat) = 0 ∧ false = false then [(b, 1), (a, 0)] else [(b, 0 + 1)]) = _
  rw [if_pos ⟨rfl, rfl⟩, List.lookup_cons, List.lookup_cons]
  by_cases z : e = b
  · simp [z]
  · have h1 : (e == b) = false := by simpa using z
    rw [h1, if_neg z]
    by_cases y : e = a
    · simp [y]
    · have h2 : (e == a) = false := by simpa using y
      rw [h2, if_neg y]
      rfl
theorem beside_step0 {a b e : Nat} : stepT (besideT a b) 0 e = if e = a then some 0 else if e = b then some 1 else none := by
  show List.lookup e [(a, 0), (b, 1)] = _
  rw [List.lookup_cons, List.lookup_cons]
  by_cases z : e = a
  · simp [z]
  · have h1 : (e == a) = false := by simpa using z
    rw [h1, if_neg z]
    by_cases y : e = b
    · simp [y]
    · have h2 : (e == b) = false := by simpa using y
      rw [h2, if_neg y]
      rfl
theorem beside_step1 {a b e : Nat} : stepT (besideT a b) 1 e = if e = b then some 1 else none := by
  show List.lookup e [(b, 1)] = _
  rw [List.lookup_cons]
  by_cases z : e = b
  · simp [z]
  · have h1 : (e == b) = false := by simpa using z
    rw [h1, if_neg z]
    rfl
/-- along the chain both come to an end -/
theorem chain_dies {a b c N : Nat} {sh : Bool} (hbc : b ≠ c) : ∀ (k i : Nat), 0 < i → i + k = N → ¬ Goes (dB (chainT a b c N sh) (besideT a b)) (some i, some 1)
  | 0, i, h0, hi => by
    have e : i = N := by omega
    subst e
    refine not_goes_of [] (fun x q h => ?_) (fun _ h => nomatch h)
    rw [dB_eq] at h
    obtain ⟨_, s, t, h1, h2⟩ := joinB_some h
    have h1' : stepT (chainT a b c i sh) i x = some s := h1
    have h2' : stepT (besideT a b) 1 x = some t := h2
    rw [chain_last] at h1'
    rw [beside_step1] at h2'
    by_cases z : x = c
    · have : x ≠ b := fun q => hbc (q.symm.trans z)
      rw [if_neg this] at h2'
      cases h2'
    · rw [if_neg z] at h1'
      cases h1'
  | k + 1, i, h0, hi => by
    refine not_goes_of [(b, (some (i + 1), some 1))] (fun x q h => ?_) (fun y hy => ?_)
    · rw [dB_eq] at h
      obtain ⟨e, s, t, h1, h2⟩ := joinB_some h
      have h1' : stepT (chainT a b c N sh) i x = some s := h1
      have h2' : stepT (besideT a b) 1 x = some t := h2
      rw [chain_step (.inl h0) (by omega)] at h1'
      rw [beside_step1] at h2'
      by_cases z : x = b
      · rw [if_pos z] at h1' h2'
        cases h1'
        cases h2'
        rw [h1, h2] at e
        subst e
        subst z
        simp
      · rw [if_neg z] at h1'
        cases h1'
    · have e : y = (b, (some (i + 1), some 1)) := by simpa using hy
      subst e
      exact chain_dies hbc k (i + 1) (by omega) (by omega)
/-- what is of both, from the first pair -/
theorem ended_steps {a b c N : Nat} {sh : Bool} (hN : 0 < N) (hab : a ≠ b) (x : Nat) (q : PK) : dB (chainT a b c N sh) (besideT a b) pk0 x = some q ↔ (x = b ∧ q = (some 1, some 1)) ∨ (sh = false ∧ x = a ∧ q = pk0) := by
  rw [dB_eq]
  show joinB (stepT (chainT a b c N sh) 0 x) (stepT (besideT a b) 0 x) = some q ↔ _
  rw [beside_step0]
  cases sh with
  | true =>
    rw [chain_step (.inr rfl) hN]
    by_cases z : x = b
    · have : x ≠ a := fun e => hab (e.symm.trans z)
      rw [if_pos z, if_neg this]
      simp [joinB, z, eq_comm]
    · rw [if_neg z]
      simp [joinB, z]
  | false =>
    rw [chain_first hN hab]
    by_cases z : x = b
    · have : x ≠ a := fun e => hab (e.symm.trans z)
      rw [if_pos z, if_neg this]
      simp [joinB, z, this, eq_comm, hab]
    · rw [if_neg z]
      by_cases y : x = a
      · rw [if_pos y, if_pos y]
        simp [joinB, y, hab, pk0, eq_comm]
      · rw [if_neg y, if_neg y]
        simp [joinB, z, y]
theorem ended_goes {a b c N : Nat} {sh : Bool} (hN : 0 < N) (hab : a ≠ b) (hbc : b ≠ c) : Both (chainT a b c N sh) (besideT a b) [] ↔ sh = false := by
  rw [← goesB0]
  constructor
  · intro h
    cases sh with
    | false => rfl
    | true =>
      refine (not_goes_of [(b, (some 1, some 1))] (fun x q hq => ?_) (fun y hy => ?_) h).elim
      · rcases (ended_steps hN hab x q).mp hq with ⟨e1, e2⟩ | ⟨e, _⟩
        · subst e1 e2
          simp
        · cases e
      · have e : y = (b, (some 1, some 1)) := by simpa using hy
        subst e
        exact chain_dies hbc (N - 1) 1 (by omega) (by omega)
  · intro h
    subst h
    exact goes_of_closed (fun p => p = pk0) (fun p hp => ⟨a, pk0, by rw [hp]; exact (ended_steps hN hab a pk0).mpr (.inr ⟨rfl, rfl, rfl⟩), rfl⟩) rfl
/-- the weathers that go on are those of a alone -/
theorem ended_words {a b c N : Nat} (hN : 0 < N) (hab : a ≠ b) (hbc : b ≠ c) (w : List Nat) : Both (chainT a b c N false) (besideT a b) w ↔ ∀ e ∈ w, e = a := by
  constructor
  · intro h
    have key : ∀ (n : Nat) (w : List Nat), w.length = n → Both (chainT a b c N false) (besideT a b) w → (∀ e ∈ w, e = a) ∧ runD (dB (chainT a b c N false) (besideT a b)) pk0 w = some pk0 := by
      intro n
      induction n with
      | zero =>
        intro w hl _
        have e : w = [] := List.length_eq_zero_iff.mp hl
        subst e
        exact ⟨(fun e h => nomatch h), rfl⟩
      | succ n ih =>
        intro w hl hb
        obtain ⟨u, x, e⟩ := exists_snoc hl
        subst e
        have hbu : Both (chainT a b c N false) (besideT a b) u := fun k => by
          obtain ⟨v, hv, h1, h2⟩ := hb k
          refine ⟨(x :: v).take k, by rw [List.length_take, List.length_cons]; omega, ?_, ?_⟩
          · have e : u ++ [x] ++ v = (u ++ (x :: v).take k) ++ (x :: v).drop k := by rw [List.append_assoc, List.append_assoc, List.take_append_drop]; rfl
            rw [e] at h1
            exact h1.init
          · have e : u ++ [x] ++ v = (u ++ (x :: v).take k) ++ (x :: v).drop k := by rw [List.append_assoc, List.append_assoc, List.take_append_drop]; rfl
            rw [e] at h2
            exact h2.init
        obtain ⟨hu1, hu2⟩ := ih u (by simpa using hl) hbu
        -- the last step
        have hr : ∃ q, runD (dB (chainT a b c N false) (besideT a b)) pk0 (u ++ [x]) = some q := by
          obtain ⟨o1, o2⟩ := hb.of
          rw [runB0]
          unfold Of at o1 o2
          obtain ⟨i, hi⟩ := Option.isSome_iff_exists.mp o1
          obtain ⟨j, hj⟩ := Option.isSome_iff_exists.mp o2
          rw [hi, hj]
          exact ⟨_, rfl⟩
        obtain ⟨q, hq⟩ := hr
        have hq2 := hq
        rw [runD_snoc, hu2] at hq
        have hg : Goes (dB (chainT a b c N false) (besideT a b)) q := (goesB hq2).mpr hb
        rcases (ended_steps hN hab x q).mp hq with ⟨e1, e2⟩ | ⟨_, e1, e2⟩
        · subst e2
          exact (chain_dies hbc (N - 1) 1 (by omega) (by omega) hg).elim
        · subst e1 e2
          refine ⟨fun e he => ?_, hq2⟩
          rcases List.mem_append.mp he with h | h
          · exact hu1 e h
          · simpa using h
    exact (key _ w rfl h).1
  · intro h
    have hr : ∀ (w : List Nat), (∀ e ∈ w, e = a) → runD (dB (chainT a b c N false) (besideT a b)) pk0 w = some pk0 := by
      intro w
      induction w with
      | nil => intro _; rfl
      | cons x w ih =>
        intro hx
        show (dB (chainT a b c N false) (besideT a b) pk0 x).bind (fun q => runD _ q w) = some pk0
        rw [(ended_steps hN hab x pk0).mpr (.inr ⟨rfl, hx x List.mem_cons_self, rfl⟩)]
        exact ih fun e he => hx e (List.mem_cons_of_mem _ he)
    exact (goesB (hr w h)).mp (goesB0.mpr ((ended_goes hN hab hbc).mpr rfl))
/-- a kind of one row with these weathers has just that row -/
theorem one_row {T : Tab} {a : Nat} (h : WF T) (h1 : T.length = 1) (hw : ∀ w, Of T w ↔ ∀ e ∈ w, e = a) : T = [[(a, 0)]] := by
  cases T with
  | nil => simp at h1
  | cons r T =>
    have hT : T = [] := by cases T with
      | nil => rfl
      | cons _ _ => simp at h1
    subst hT
    obtain ⟨hne, hnd, hx⟩ := h.row r (by simp)
    have all : ∀ x ∈ r, x = (a, 0) := fun x hxr => by
      have h0 : x.2 < 1 := (hx x hxr).2
      have hs : stepT [r] 0 x.1 = some x.2 := lookup_of_mem hnd hxr
      have ho : Of [r] [x.1] := by
        unfold Of run
        show ((stepT [r] 0 x.1).bind fun q => runD (stepT [r]) q []).isSome = true
        rw [hs]
        rfl
      have := (hw [x.1]).mp ho x.1 (by simp)
      obtain ⟨x1, x2⟩ := x
      have e2 : x2 = 0 := by
        have h0' : x2 < 1 := h0
        omega
      have e1 : x1 = a := this
      rw [e1, e2]
    cases r with
    | nil => exact (hne rfl).elim
    | cons x r =>
      cases r with
      | nil => rw [all x (by simp)]
      | cons y r =>
        rw [all x (by simp), all y (by simp)] at hnd
        simp at hnd
/-- the pairs that go on: the first alone -/
theorem ended_pairs {a b c N : Nat} {P : List PK} (hN : 0 < N) (hab : a ≠ b) (hbc : b ≠ c) (hP : P.Nodup)
    (h : ∀ p, p ∈ P ↔ Reach (dB (chainT a b c N false) (besideT a b)) pk0 p ∧ Goes (dB (chainT a b c N false) (besideT a b)) p) : P.length = 1 := by
  have : P.length = [pk0].length := nodup_same_len hP (by simp) fun p => by
    rw [h p, List.mem_singleton]
    constructor
    · rintro ⟨⟨w, hw⟩, hg⟩
      have hb := (goesB hw).mp hg
      have := (ended_words hN hab hbc w).mp hb
      have hr : ∀ (w : List Nat), (∀ e ∈ w, e = a) → runD (dB (chainT a b c N false) (besideT a b)) pk0 w = some pk0 := by
        intro w
        induction w with
        | nil => intro _; rfl
        | cons x w ih =>
          intro hx
          show (dB (chainT a b c N false) (besideT a b) pk0 x).bind (fun q => runD _ q w) = some pk0
          rw [(ended_steps hN hab x pk0).mpr (.inr ⟨rfl, hx x List.mem_cons_self, rfl⟩)]
          exact ih fun e he => hx e (List.mem_cons_of_mem _ he)
      rw [hr w this] at hw
      exact (Option.some.inj hw).symm
    · intro e
      subst e
      exact ⟨Reach.refl _ _, goesB0.mpr ((ended_goes hN hab hbc).mpr rfl)⟩
  simpa using this
/-- the other way round -/
theorem both_comm {T U : Tab} (w : List Nat) : Both T U w ↔ Both U T w := ⟨Both.symm, Both.symm⟩
def swapP (p : PK) : PK := (p.2, p.1)
theorem swap_count {T U : Tab} {P Q : List PK} (hP : P.Nodup) (hQ : Q.Nodup) (h1 : ∀ p, p ∈ P ↔ Reach (dB T U) pk0 p ∧ Goes (dB T U) p) (h2 : ∀ p, p ∈ Q ↔ Reach (dB U T) pk0 p ∧ Goes (dB U T) p) : P.length = Q.length := by
  have hn : (P.map swapP).Nodup := nodup_map_on _ hP fun x _ y _ e => by
    have a := congrArg Prod.fst e
    have b := congrArg Prod.snd e
    exact Prod.ext b a
  have go : ∀ {T U : Tab} {p : PK}, Reach (dB T U) pk0 p ∧ Goes (dB T U) p → Reach (dB U T) pk0 (swapP p) ∧ Goes (dB U T) (swapP p) := by
    rintro T U p ⟨⟨w, hw⟩, hg⟩
    have hb := (goesB hw).mp hg
    have hw2 := hw
    rw [runB0] at hw
    obtain ⟨e, i, j, e1, e2⟩ := joinB_some hw
    have hr : runD (dB U T) pk0 w = some (swapP p) := by
      rw [runB0, e1, e2, e, e1, e2]
      rfl
    exact ⟨⟨w, hr⟩, (goesB hr).mpr hb.symm⟩
  have := nodup_same_len hn hQ fun p => by
    rw [h2 p, List.mem_map]
    constructor
    · rintro ⟨q, hq, e⟩
      subst e
      exact go ((h1 q).mp hq)
    · intro h
      exact ⟨swapP p, (h1 _).mpr (go h), rfl⟩
  rwa [List.length_map] at this
end KW
/-! KwLay: dicts whose keys are pairs of a whole number or None: told over the abstract heap, and their operations. -/
namespace KW
open PySem PySem.Spec PyProof.Rows L2

def leafO : Option Nat → Leaf
  | none => .none
  | some n => .num (n : Int)
def pkL (p : PK) : List Leaf := [leafO p.1, leafO p.2]
theorem leafO_inj {a b : Option Nat} (h : leafO a = leafO b) : a = b := by
  cases a with
  | none => cases b with
    | none => rfl
    | some m => cases h
  | some n => cases b with
    | none => cases h
    | some m =>
      have e : Leaf.num (n : Int) = Leaf.num (m : Int) := h
      injection e with e
      rw [Int.ofNat.inj e]
theorem pkL_inj {p q : PK} (h : pkL p = pkL q) : p = q := by
  have h' : [leafO p.1, leafO p.2] = [leafO q.1, leafO q.2] := h
  injection h' with h1 h2
  injection h2 with h2 _
  exact Prod.ext (leafO_inj h1) (leafO_inj h2)
def optV : Option Nat → V
  | none => .non
  | some n => .int (n : Int)
def pkV (p : PK) : List V := [optV p.1, optV p.2]
theorem optV_inj {a b : Option Nat} (h : optV a = optV b) : a = b := by
  cases a with
  | none => cases b with
    | none => rfl
    | some m => cases h
  | some n => cases b with
    | none => cases h
    | some m =>
      have e : V.int (n : Int) = V.int (m : Int) := h
      injection e with e
      rw [Int.ofNat.inj e]
abbrev pairK (P : Program) (w : World) : HeapKind P w (List Leaf) := tupleKind (leafKind P w)
/-- at t the pair's own tuple -/
abbrev PairAt (K : PySem.W.Frag) (H : Hp) (t : Addr) (p : PK) : Prop := SqT K H t (pkV p)
/-- an entry: the pair, where its tuple stands, its value -/
abbrev NE := PK × Addr × V
abbrev NRel (e : NE) (x : List Leaf × Addr × Value) : Prop := x.1 = pkL e.1 ∧ x.2.1 = e.2.1 ∧ RelV e.2.2 x.2.2
/-- the object at d is a dict of these entries -/
def NObj (P : Program) (w : World) (d : Addr) (es : List NE) : Heap → Prop := fun h =>
  (es.map (·.1)).Nodup ∧ es.length ≤ sizeLine ∧ (d == sysModules) = false ∧ ∃ xs : List (List Leaf × Addr × Value), Paired NRel es xs ∧
    ∃ o en ep, h.get? d = some o ∧ o.ExactDict ∧ o.data = .dict en ep ∧ en.toList = xs.map (entryOfKey (pairK P w))
def NO (P : Program) (w : World) (d : Addr) (es : List NE) : HO := .ext (NObj P w d es)
/-- .. and the pairs' tuples stand -/
structure ND (P : Program) (w : World) (K : PySem.W.Frag) (H : Hp) (d : Addr) (es : List NE) : Prop where
  at_ : H d = some (NO P w d es)
  keys : ∀ e ∈ es, PairAt K H e.2.1 e.1
def valN (es : List NE) (p : PK) : Option V := (es.find? fun e => decide (e.1 = p)).map (·.2.2)
def putN (es : List NE) (p : PK) (b : Addr) (v : V) : List NE := if (valN es p).isSome = true then es.map (fun e => if e.1 = p then (e.1, e.2.1, v) else e) else es ++ [(p, b, v)]

theorem leaf_is {P : Program} {w : World} {x : Option Nat} {u : Value} (r : RelV (optV x) u) : (leafKind P w).is (leafO x) u = true := by
  cases x with
  | none =>
    obtain rfl : u = Value.none := r
    rfl
  | some n =>
    obtain ⟨t, rfl⟩ : ∃ t, u = Value.int (n : Int) t := r
    exact decide_eq_true rfl
theorem items_pk {P : Program} {w : World} {p : PK} {us : List Value} (r : Vals (pkV p) us) : ItemsAre (leafKind P w) (pkL p) us := by
  cases r with
  | cons h1 r =>
    cases r with
    | cons h2 r =>
      cases r
      exact .cons (leaf_is h1) (.cons (leaf_is h2) .nil)
theorem paired_mem {A B : Type} {R : A → B → Prop} {l : List A} {m : List B} (h : Paired R l m) : ∀ b ∈ m, ∃ a ∈ l, R a b := by
  induction h with
  | nil => intro b hb; exact nomatch hb
  | cons r t ih =>
    intro b hb
    rcases List.mem_cons.mp hb with e | hb
    · subst e; exact ⟨_, List.mem_cons_self, r⟩
    · obtain ⟨a, ha, r'⟩ := ih b hb
      exact ⟨a, List.mem_cons_of_mem _ ha, r'⟩
theorem paired_get' {A B : Type} {R : A → B → Prop} {l : List A} {m : List B} (h : Paired R l m) : ∀ {i : Nat} {b : B}, m[i]? = some b → ∃ a, l[i]? = some a ∧ R a b := by
  induction h with
  | nil => intro i b e; simp at e
  | cons r t ih =>
    intro i b e
    cases i with
    | zero =>
      simp at e
      subst e
      exact ⟨_, rfl, r⟩
    | succ i => exact ih (by simpa using e)
theorem NRel.val {es : List NE} {xs : List (List Leaf × Addr × Value)} (h : Paired NRel es xs) (p : PK) : RelO (valN es p) ((atKey xs (pkL p)).map (·.2)) := by
  induction h with
  | nil => exact True.intro
  | @cons a b as bs r t ih =>
    obtain ⟨h1, h2, h3⟩ := r
    unfold valN atKey at ih ⊢
    rw [List.find?_cons, List.find?_cons]
    by_cases e : a.1 = p
    · have e' : b.1 = pkL p := by rw [h1, e]
      rw [decide_eq_true e, decide_eq_true e']
      exact h3
    · have e' : ¬ b.1 = pkL p := fun z => e (pkL_inj (h1.symm.trans z))
      rw [decide_eq_false e, decide_eq_false e']
      exact ih
theorem NRel.put {es : List NE} {xs : List (List Leaf × Addr × Value)} (h : Paired NRel es xs) (p : PK) (b : Addr) {v : V} {u : Value} (rv : RelV v u) : Paired NRel (putN es p b v) (storedH xs (pkL p) b u) := by
  have q : (valN es p).isSome = (atKey xs (pkL p)).isSome := by
    have := (NRel.val h p).isSome_eq
    rwa [Option.isSome_map] at this
  unfold putN storedH
  rw [q]
  by_cases z : (atKey xs (pkL p)).isSome = true
  · rw [if_pos z, if_pos z]
    clear q z
    induction h with
    | nil => exact .nil
    | @cons a c as bs r t ih =>
      rw [List.map_cons, List.map_cons]
      refine .cons ?_ ih
      obtain ⟨h1, h2, h3⟩ := r
      unfold putAt
      by_cases e : a.1 = p
      · have e' : c.1 = pkL p := by rw [h1, e]
        rw [if_pos e, if_pos e']
        exact ⟨h1, h2, rv⟩
      · have e' : ¬ c.1 = pkL p := fun z => e (pkL_inj (h1.symm.trans z))
        rw [if_neg e, if_neg e']
        exact ⟨h1, h2, h3⟩
  · rw [if_neg z, if_neg z]
    exact Paired.snoc h ⟨rfl, rfl, rv⟩
theorem NRel.keys {es : List NE} {xs : List (List Leaf × Addr × Value)} (h : Paired NRel es xs) : xs.map (·.1) = es.map fun e => pkL e.1 := by
  induction h with
  | nil => rfl
  | cons r t ih => rw [List.map_cons, List.map_cons, ih, r.1]
theorem NRel.nodup {es : List NE} {xs : List (List Leaf × Addr × Value)} (h : Paired NRel es xs) : (xs.map (·.1)).Nodup ↔ (es.map (·.1)).Nodup := by
  rw [NRel.keys h]
  have e : (es.map fun e => pkL e.1) = (es.map (·.1)).map pkL := by rw [List.map_map]; rfl
  rw [e]
  constructor
  · intro q
    generalize es.map (·.1) = l at q
    induction l with
    | nil => exact List.nodup_nil
    | cons a l ih =>
      rw [List.map_cons, List.nodup_cons] at q
      rw [List.nodup_cons]
      exact ⟨fun hm => q.1 (List.mem_map.mpr ⟨a, hm, rfl⟩), ih q.2⟩
  · intro q
    exact nodup_map_on pkL q fun x _ y _ e => pkL_inj e
theorem putN_len (es : List NE) (p : PK) (b : Addr) (v : V) : (putN es p b v).length ≤ es.length + 1 := by
  unfold putN
  split
  · rw [List.length_map]; omega
  · rw [List.length_append]; simp
theorem valN_keys {es : List NE} {p : PK} : (valN es p).isSome = true ↔ p ∈ es.map (·.1) := by
  unfold valN
  rw [Option.isSome_map]
  induction es with
  | nil => simp
  | cons e es ih =>
    rw [List.find?_cons, List.map_cons, List.mem_cons]
    by_cases h : e.1 = p
    · simp [h]
    · rw [decide_eq_false h]
      rw [ih]
      exact ⟨.inr, fun q => q.resolve_left fun z => h z.symm⟩
theorem valN_none {es : List NE} {p : PK} : valN es p = none ↔ p ∉ es.map (·.1) := by
  rw [← valN_keys]
  cases valN es p <;> simp
theorem valN_mem {es : List NE} (hn : (es.map (·.1)).Nodup) {e : NE} (he : e ∈ es) : valN es e.1 = some e.2.2 := by
  unfold valN
  induction es with
  | nil => exact nomatch he
  | cons a es ih =>
    rw [List.map_cons, List.nodup_cons] at hn
    rw [List.find?_cons]
    rcases List.mem_cons.mp he with q | q
    · subst q
      rw [decide_eq_true rfl]
      rfl
    · have hne : ¬ a.1 = e.1 := fun z => hn.1 (List.mem_map.mpr ⟨e, q, z.symm⟩)
      rw [decide_eq_false hne]
      exact ih hn.2 q
theorem valN_some {es : List NE} {p : PK} {v : V} (h : valN es p = some v) : ∃ e ∈ es, e.1 = p ∧ e.2.2 = v := by
  unfold valN at h
  obtain ⟨e, he, ev⟩ := Option.map_eq_some_iff.mp h
  exact ⟨e, List.mem_of_find?_eq_some he, by simpa using List.find?_some he, ev⟩
theorem putN_new {es : List NE} {p : PK} {b : Addr} {v : V} (h : p ∉ es.map (·.1)) : putN es p b v = es ++ [(p, b, v)] := by
  unfold putN
  rw [valN_none.mpr h]
  exact if_neg (by simp)
theorem putN_old {es : List NE} {p : PK} {b : Addr} {v : V} (h : p ∈ es.map (·.1)) : putN es p b v = es.map fun e => if e.1 = p then (e.1, e.2.1, v) else e := by
  unfold putN
  exact if_pos (valN_keys.mpr h)
theorem putN_keys {es : List NE} {p : PK} {b : Addr} {v : V} : (putN es p b v).map (·.1) = if p ∈ es.map (·.1) then es.map (·.1) else es.map (·.1) ++ [p] := by
  by_cases h : p ∈ es.map (·.1)
  · rw [putN_old h, if_pos h, List.map_map]
    refine List.map_congr_left fun e _ => ?_
    show (if e.1 = p then (e.1, e.2.1, v) else e).1 = e.1
    by_cases q : e.1 = p
    · rw [if_pos q]
    · rw [if_neg q]
  · rw [putN_new h, if_neg h, List.map_append]
    rfl
theorem putN_nodup {es : List NE} {p : PK} {b : Addr} {v : V} (hn : (es.map (·.1)).Nodup) : ((putN es p b v).map (·.1)).Nodup := by
  rw [putN_keys]
  by_cases h : p ∈ es.map (·.1)
  · rw [if_pos h]; exact hn
  · rw [if_neg h]; exact nodup_snoc hn h
theorem putN_tups {es : List NE} {p : PK} {b : Addr} {v : V} {e : NE} (h : e ∈ putN es p b v) : (∃ e' ∈ es, e'.1 = e.1 ∧ e'.2.1 = e.2.1) ∨ (e.1 = p ∧ e.2.1 = b) := by
  by_cases q : p ∈ es.map (·.1)
  · rw [putN_old q] at h
    obtain ⟨e', he', rfl⟩ := List.mem_map.mp h
    left
    refine ⟨e', he', ?_⟩
    by_cases z : e'.1 = p
    · rw [if_pos z]; exact ⟨rfl, rfl⟩
    · rw [if_neg z]; exact ⟨rfl, rfl⟩
  · rw [putN_new q] at h
    rcases List.mem_append.mp h with h | h
    · exact .inl ⟨e, h, rfl, rfl⟩
    · have e' : e = (p, b, v) := by simpa using h
      subst e'
      exact .inr ⟨rfl, rfl⟩

section
variable {X : Cx} {pins : List (Addr × Obj)} {σ : L2.St} {H : Hp} {s : Shared} {d b : Addr} {es : List NE} {p : PK} {A : Around} {E : Value → Shared → Prop}
theorem pair_is (I : Inv X pins σ H s) (h : PairAt X.K H b p) : (pairK X.prog X.w).is s.heap (pkL p) b := by
  obtain ⟨its, r, ⟨o, h1, h2, n, h3⟩, _⟩ := I.tuple h
  exact ⟨o, its.toArray, n, h1, h2, h3, by simpa using items_pk r⟩
theorem nobj_of (I : Inv X pins σ H s) (h : Rd H d (NO X.prog X.w d es)) : NObj X.prog X.w d es s.heap := by
  have := (show ObjOk X.prog X.w H s.heap d (NO X.prog X.w d es) from h.ok I.hok)
  exact this.1
/-- what the library's rules ask of the dict -/
theorem nd_raw (I : Inv X pins σ H s) (h : Rd H d (NO X.prog X.w d es)) (hk : ∀ e ∈ es, PairAt X.K H e.2.1 e.1) : (es.map (·.1)).Nodup ∧ es.length ≤ sizeLine ∧ (d == sysModules) = false ∧ ∃ xs, Paired NRel es xs ∧ s.heap.DictOfH (pairK X.prog X.w) d xs := by
  obtain ⟨hn, hl, hd, xs, r, o, en, ep, h1, h2, h3, h4⟩ := nobj_of I h
  refine ⟨hn, hl, hd, xs, r, o, en, ep, h1, h2, h3, h4, fun x hx => ?_, (NRel.nodup r).mpr hn⟩
  obtain ⟨e, he, r1, r2, _⟩ := paired_mem r x hx
  rw [r1, r2]
  exact pair_is I (hk e he)
theorem nobj_steady {P : Program} {w : World} {d : Addr} {es : List NE} : ∀ h1 h2 : Heap, NObj P w d es h1 → (∀ o, h1.get? d = some o → h2.get? d = some o) → NObj P w d es h2 := by
  rintro h1 h2 ⟨hn, hl, hd, xs, r, o, en, ep, e1, e2⟩ k
  exact ⟨hn, hl, hd, xs, r, o, en, ep, k _ e1, e2⟩
theorem nobj_ok {P : Program} {w : World} {H' : Hp} {h' : Heap} {d : Addr} {es : List NE} (h : NObj P w d es h') : ObjOk P w H' h' d (NO P w d es) := by
  refine ⟨h, ?_, nobj_steady⟩
  obtain ⟨_, _, _, _, _, o, _, _, e, _⟩ := h
  exact ⟨o, e⟩
theorem nd_typeIs (I : Inv X pins σ H s) (h : Rd H d (NO X.prog X.w d es)) : s.TypeIs (.ref d) "dict" := by
  obtain ⟨_, _, _, _, _, o, _, _, e, c, _⟩ := nobj_of I h
  exact ⟨o, e, c.1⟩
theorem nd_noDict (I : Inv X pins σ H s) (h : Rd H d (NO X.prog X.w d es)) : ∀ b, Value.ref d = .ref b → ∃ ob, s.heap.get? b = some ob ∧ ob.dict = none := fun b q => by
  cases q
  obtain ⟨_, _, _, _, _, o, _, _, e, c, _⟩ := nobj_of I h
  exact ⟨o, e, c.2.1⟩
theorem pairK_room (hu : A.units + 1 < cLine) : (pairK X.prog X.w).room A.in1 := hu

theorem n_getItem {v : V} {Q : Value → Shared → Prop} (hu : A.units + 1 < cLine) (I : Inv X pins σ H s) (hd : ND X.prog X.w X.K H d es) (hb : PairAt X.K H b p) (hv : valN es p = some v) (h : ∀ w' s', Inv X pins σ H s' → RelV v w' → Q w' s') :
    wpAny (model X.prog X.w) A (getItem (.ref d) (.ref b)) Q E s := by
  obtain ⟨hn, hl, hs, xs, rel, dd⟩ := nd_raw I (.inl hd.at_) hd.keys
  obtain ⟨w', hw, rw'⟩ := RelO.some_of (v := v) (o := (atKey xs (pkL p)).map (·.2)) (by rw [← hv]; exact NRel.val rel p)
  obtain ⟨q, hq, hq2⟩ := Option.map_eq_some_iff.mp hw
  refine wpAny_getItem_heap (pairK_room (X := X) hu) (pair_is I hb) dd hq ?_
  rw [hq2]
  exact h w' _ (I.tok _) rw'
theorem n_in {Q : Value → Shared → Prop} (hu : A.units + 1 < cLine) (I : Inv X pins σ H s) (hd : ND X.prog X.w X.K H d es) (hb : PairAt X.K H b p) (h : ∀ s', Inv X pins σ H s' → Q (.bool (valN es p).isSome) s') :
    wpAny (model X.prog X.w) A (compareOp .In (.ref b) (.ref d)) Q E s := by
  obtain ⟨hn, hl, hs, xs, rel, dd⟩ := nd_raw I (.inl hd.at_) hd.keys
  refine wpAny_in_heap (pairK_room (X := X) hu) (pair_is I hb) hs dd ?_
  have q := (NRel.val rel p).isSome_eq
  rw [Option.isSome_map] at q
  rw [← q]
  exact h _ (I.tok _)
theorem n_notIn {Q : Value → Shared → Prop} (hu : A.units + 1 < cLine) (I : Inv X pins σ H s) (hd : ND X.prog X.w X.K H d es) (hb : PairAt X.K H b p) (h : ∀ s', Inv X pins σ H s' → Q (.bool (!(valN es p).isSome)) s') :
    wpAny (model X.prog X.w) A (compareOp .NotIn (.ref b) (.ref d)) Q E s := by
  obtain ⟨hn, hl, hs, xs, rel, dd⟩ := nd_raw I (.inl hd.at_) hd.keys
  refine wpAny_notIn_heap (pairK_room (X := X) hu) (pair_is I hb) hs dd ?_
  have q := (NRel.val rel p).isSome_eq
  rw [Option.isSome_map] at q
  rw [← q]
  exact h _ (I.tok _)
theorem nobj_put {u : Value} {v : V} {h' : Heap} (I : Inv X pins σ H s) (hd : ND X.prog X.w X.K H d es) (hlen : es.length < sizeLine) (hb : PairAt X.K H b p) (rv : RelV v u) {xs : List (List Leaf × Addr × Value)} (rel : Paired NRel es xs)
    (dd' : h'.DictOfH (pairK X.prog X.w) d (storedH xs (pkL p) b u)) : NObj X.prog X.w d (putN es p b v) h' := by
  obtain ⟨hn, hl, hs, _⟩ := nobj_of I (.inl hd.at_)
  obtain ⟨o, en, ep, h1, h2, h3, h4, h5, h6⟩ := dd'
  refine ⟨putN_nodup hn, by have := putN_len es p b v; omega, hs, _, NRel.put rel p b rv, o, en, ep, h1, h2, h3, h4⟩
theorem n_setItem {v : V} {r : Value} {Q : Unit → Shared → Prop} (hu : A.units + 1 < cLine) (I : Inv X pins σ H s) (hd : ND X.prog X.w X.K H d es) (hb : PairAt X.K H b p) (hlen : es.length < sizeLine) (rv : RelV v r)
    (h : ∀ s', Inv X pins σ (upd H d (NO X.prog X.w d (putN es p b v))) s' → Q () s') : wpAny (model X.prog X.w) A (setItem (.ref d) (.ref b) r) Q E s := by
  obtain ⟨hn, hl, hs, xs, rel, dd⟩ := nd_raw I (.inl hd.at_) hd.keys
  have hz : xs.length ≤ sizeLine := by rw [← Paired.length rel]; exact hl
  refine wpAny_setItem_heap (hsz := hz) (pairK_room (X := X) hu) (pair_is I hb) dd fun h' dd' hs' => h _ ?_
  have he : ∃ q, h'.get? d = some q := let ⟨q, _, _, hq, _⟩ := dd'; ⟨q, hq⟩
  exact d_write I (by rw [hd.at_]; exact True.intro) hs' he (nobj_ok (nobj_put I hd hlen hb rv rel dd'))
theorem n_setdefault {x : V} {r : Value} {Q : Value → Shared → Prop} (hu : A.units + 1 < cLine) (I : Inv X pins σ H s) (hd : ND X.prog X.w X.K H d es) (hb : PairAt X.K H b p) (hlen : es.length < sizeLine) (rx : RelV x r)
    (h1 : ∀ v w' s', valN es p = some v → Inv X pins σ H s' → RelV v w' → Q w' s') (h2 : valN es p = none → ∀ s', Inv X pins σ (upd H d (NO X.prog X.w d (putN es p b x))) s' → Q r s') :
    wpAny (model X.prog X.w) A (call (.builtin "dict.setdefault") [.ref d, .ref b, r]) Q E s := by
  obtain ⟨hn, hl, hs, xs, rel, dd⟩ := nd_raw I (.inl hd.at_) hd.keys
  have hz : xs.length ≤ sizeLine := by rw [← Paired.length rel]; exact hl
  have q := NRel.val rel p
  refine call_setdefault_heap (hsz := hz) (pairK_room (X := X) hu) (pair_is I hb) hs dd (fun pr hp => ?_) fun hnone h' dd' hs' => ?_
  · rw [hp] at q
    cases e : valN es p with
    | none => rw [e] at q; exact q.elim
    | some v =>
      rw [e] at q
      exact h1 v _ _ e (I.tok _) q
  · have e : valN es p = none := by
      rw [hnone] at q
      cases e : valN es p with
      | none => rfl
      | some v => rw [e] at q; exact q.elim
    have he : ∃ q, h'.get? d = some q := let ⟨q, _, _, hq, _⟩ := dd'; ⟨q, hq⟩
    exact h2 e _ (d_write I (by rw [hd.at_]; exact True.intro) hs' he (nobj_ok (nobj_put I hd hlen hb rx rel dd')))
theorem n_get2 {x : V} {r : Value} {Q : Value → Shared → Prop} (hu : A.units + 1 < cLine) (I : Inv X pins σ H s) (hd : ND X.prog X.w X.K H d es) (hb : PairAt X.K H b p) (rx : RelV x r) (h : ∀ w' s', Inv X pins σ H s' → RelV ((valN es p).getD x) w' → Q w' s') :
    wpAny (model X.prog X.w) A (call (.builtin "dict.get") [.ref d, .ref b, r]) Q E s := by
  obtain ⟨hn, hl, hs, xs, rel, dd⟩ := nd_raw I (.inl hd.at_) hd.keys
  refine call_meetsIn PySem.F.slot_dict_get dd.typeIs PySem.F.entry_dict_get (PySem.F.args_dict_get_3 _ _ _) (meetsH_dict_get_default (pairK X.prog X.w) d b hs r) ⟨pairK_room (X := X) hu, pkL p, xs, pair_is I hb, dd, h _ _ (I.tok _) ?_⟩
  exact (NRel.val rel p).getD rx
end

/-! ### readings and rules -/
section
variable (X : Cx)
/-- d[y] -/
def tNGet (td ty : TE) : TE := fun σ H Q => td σ H fun x H1 => ty σ H1 fun y H2 => ∃ d es b p v, x = .ref d ∧ ND X.prog X.w X.K H2 d es ∧ y = .ref b ∧ PairAt X.K H2 b p ∧ valN es p = some v ∧ Q v H2
def tNIn (ty td : TE) : TE := fun σ H Q => ty σ H fun y H1 => td σ H1 fun x H2 => ∃ d es b p, x = .ref d ∧ ND X.prog X.w X.K H2 d es ∧ y = .ref b ∧ PairAt X.K H2 b p ∧ Q (.bl (valN es p).isSome) H2
def tNNotIn (ty td : TE) : TE := fun σ H Q => ty σ H fun y H1 => td σ H1 fun x H2 => ∃ d es b p, x = .ref d ∧ ND X.prog X.w X.K H2 d es ∧ y = .ref b ∧ PairAt X.K H2 b p ∧ Q (.bl (!(valN es p).isSome)) H2
def sNPut (td ty tv : TE) : TS := fun D σ H => tv σ H fun v H1 => td σ H1 fun x H2 => ty σ H2 fun y H3 => ∃ d es b p, x = .ref d ∧ ND X.prog X.w X.K H3 d es ∧ y = .ref b ∧ PairAt X.K H3 b p ∧ es.length < sizeLine ∧ D.nx σ (upd H3 d (NO X.prog X.w d (putN es p b v)))
def tNNew : TE := fun _ H Q => ∀ d, H d = none → Q (.ref d) (upd H d (NO X.prog X.w d []))
/-- {k: v} -/
def tNDisp (tk tv : TE) : TE := fun σ H Q => ∀ d, H d = none → tk σ (upd H d (NO X.prog X.w d [])) fun y H1 => tv σ H1 fun v H2 => H2 d = some (NO X.prog X.w d []) ∧ ∃ b p, y = .ref b ∧ PairAt X.K H2 b p ∧ Q (.ref d) (upd H2 d (NO X.prog X.w d [(p, b, v)]))
def tNSetd (td ty tx : TE) : TE := fun σ H Q => td σ H fun x H1 => ∃ d es0, x = .ref d ∧ ND X.prog X.w X.K H1 d es0 ∧ ty σ H1 fun y H2 => tx σ H2 fun z H3 => ∃ es b p, ND X.prog X.w X.K H3 d es ∧ y = .ref b ∧ PairAt X.K H3 b p ∧ es.length < sizeLine ∧
  (∀ v, valN es p = some v → Q v H3) ∧ (valN es p = none → Q z (upd H3 d (NO X.prog X.w d (putN es p b z))))
def tNGet2 (td ty tx : TE) : TE := fun σ H Q => td σ H fun x H1 => ∃ d es0, x = .ref d ∧ ND X.prog X.w X.K H1 d es0 ∧ ty σ H1 fun y H2 => tx σ H2 fun z H3 => ∃ es b p, ND X.prog X.w X.K H3 d es ∧ y = .ref b ∧ PairAt X.K H3 b p ∧ Q ((valN es p).getD z) H3
end
section
variable {X : Cx} {o i e f k v value : Expr} {pos pos' apos cpos : Pos} {td ty tv tx tk : TE}
theorem pe_nget (hu : X.A.units + 1 < cLine) (ho : PE X o td) (hi : PE X i ty) (hs : NoSl i) : PE X (.Subscript o i pos) (tNGet X td ty) := by
  refine ⟨fun pins s σ H Q I h => ?_⟩
  refine subD_of PySem.F.slot_dict_getitem.lookup hs (thn (ho.run pins s σ H _ I h) fun u s1 ⟨x, H1, I1, rx, q1⟩ => thn (hi.run pins s1 σ H1 _ I1 q1) fun iv s2 ⟨y, H2, I2, ry, d, es, b, p, w, ex, hd, ey, hb, hv, q2⟩ => ?_)
  subst ex ey
  obtain rfl : u = Value.ref d := rx
  obtain rfl : iv = Value.ref b := ry
  exact ⟨nd_typeIs I2 (.inl hd.at_), n_getItem hu I2 hd hb hv fun w' s3 I3 rw' => ⟨w, H2, I3, rw', q2⟩⟩
theorem pc_nin (hu : X.A.units + 1 < cLine) (hi : PE X i ty) (ho : PE X o td) : PC X .In i o (tNIn X ty td) := by
  refine ⟨fun pins s σ H Q I h => ?_⟩
  refine thn (hi.run pins s σ H _ I h) fun iv s1 ⟨y, H1, I1, ry, q1⟩ => thn (ho.run pins s1 σ H1 _ I1 q1) fun u s2 ⟨x, H2, I2, rx, d, es, b, p, ex, hd, ey, hb, q2⟩ => ?_
  subst ex ey
  obtain rfl : u = Value.ref d := rx
  obtain rfl : iv = Value.ref b := ry
  exact n_in hu I2 hd hb fun s3 I3 => ⟨.bl (valN es p).isSome, H2, I3, rfl, q2⟩
theorem pc_nnotin (hu : X.A.units + 1 < cLine) (hi : PE X i ty) (ho : PE X o td) : PC X .NotIn i o (tNNotIn X ty td) := by
  refine ⟨fun pins s σ H Q I h => ?_⟩
  refine thn (hi.run pins s σ H _ I h) fun iv s1 ⟨y, H1, I1, ry, q1⟩ => thn (ho.run pins s1 σ H1 _ I1 q1) fun u s2 ⟨x, H2, I2, rx, d, es, b, p, ex, hd, ey, hb, q2⟩ => ?_
  subst ex ey
  obtain rfl : u = Value.ref d := rx
  obtain rfl : iv = Value.ref b := ry
  exact n_notIn hu I2 hd hb fun s3 I3 => ⟨.bl (!(valN es p).isSome), H2, I3, rfl, q2⟩
theorem ps_nput (hu : X.A.units + 1 < cLine) (ho : PE X o td) (hi : PE X i ty) (hv : PE X value tv) (hs : swapsWith value (some (.Subscript o i pos')) pos.line X.env = pure false) :
    PS X (.Assign [.Subscript o i pos'] value pos) (sNPut X td ty tv) := by
  refine ⟨fun pins s σ H D I h => ?_⟩
  refine wpAny_Assign_Subscript (thn (hv.run pins s σ H _ I h) fun r s1 ⟨v, H1, I1, rv, q1⟩ => thn (ho.run pins s1 σ H1 _ I1 q1) fun u s2 ⟨x, H2, I2, rx, q2⟩ => thn (hi.run pins s2 σ H2 _ I2 q2) fun iv s3 ⟨y, H3, I3, ry, d, es, b, p, ex, hd, ey, hb, hl, q3⟩ => ?_) hs
  subst ex ey
  obtain rfl : u = Value.ref d := rx
  obtain rfl : iv = Value.ref b := ry
  exact n_setItem hu I3 hd hb hl rv fun s4 I4 => ⟨σ, _, I4, q3⟩
theorem nobj_empty {P : Program} {w : World} (h : Heap) (hb : sysModules < h.objs.size) : NObj P w h.objs.size [] (h.push { cls := .type "dict", data := .dict #[] }) :=
  ⟨List.nodup_nil, Nat.zero_le _, beq_eq_false_iff_ne.mpr (Ne.symm (Nat.ne_of_lt hb)), [], .nil, _, #[], 0, Heap.get?_push_size _ rfl, ⟨rfl, rfl, rfl⟩, rfl, rfl⟩
theorem pe_nnew : PE X (.Dict [] [] pos) (tNNew X) := ⟨fun pins s σ H Q I h =>
  wpAny_Dict_empty ⟨.ref s.heap.objs.size, _, I.laid (a := s.heap.objs.size) (o := NO X.prog X.w s.heap.objs.size []) (t' := s.toks) (fun _ _ q => Heap.get?_push_of_some _ q) (Nat.le_refl _) (nobj_ok (nobj_empty s.heap I.big)), rfl, h _ (I.hok.fresh (Nat.le_refl _))⟩⟩
theorem pe_nsetd (hu : X.A.units + 1 < cLine) (ho : PE X o td) (he : PE X e ty) (hf : PE X f tx) (m : M2 X o "setdefault" apos e f cpos) : PE X (.Call (.Attribute o "setdefault" apos) [e, f] [] cpos) (tNSetd X td ty tx) := by
  refine ⟨fun pins s σ H Q I h => ?_⟩
  refine wpAny_Call_method m.base m.few m.line PySem.F.plainAttrs_dict PySem.F.slot_dict_setdefault PySem.F.type_dict_setdefault (thn (ho.run pins s σ H _ I h) fun u s1 ⟨x, H1, I1, rx, d, es0, ex, hd0, q1⟩ => ?_)
  subst ex
  obtain rfl : u = Value.ref d := rx
  refine ⟨nd_typeIs I1 (.inl hd0.at_), nd_noDict I1 (.inl hd0.at_), ?_⟩
  rw [m.trees]
  refine Calls.callWith_builtin rfl (Calls.evalArgs_plain (Calls.spliced_cons (thn (he.run pins s1 σ H1 _ I1 q1) fun iv s2 ⟨y, H2, I2, ry, q2⟩ =>
    Calls.spliced_cons (thn (hf.run pins s2 σ H2 _ I2 q2) fun fv s3 ⟨z, H3, I3, rz, es, b, p, hd, ey, hb, hl, q3, q4⟩ => Calls.spliced_nil ?_))))
  subst ey
  obtain rfl : iv = Value.ref b := ry
  exact n_setdefault hu I3 hd hb hl rz (fun v w' s4 ev I4 rw' => ⟨v, H3, I4, rw', q3 v ev⟩) fun en s4 I4 => ⟨z, _, I4, rz, q4 en⟩
theorem pe_nget2 (hu : X.A.units + 1 < cLine) (ho : PE X o td) (he : PE X e ty) (hf : PE X f tx) (m : M2 X o "get" apos e f cpos) : PE X (.Call (.Attribute o "get" apos) [e, f] [] cpos) (tNGet2 X td ty tx) := by
  refine ⟨fun pins s σ H Q I h => ?_⟩
  refine wpAny_Call_method m.base m.few m.line PySem.F.plainAttrs_dict PySem.F.slot_dict_get PySem.F.type_dict_get (thn (ho.run pins s σ H _ I h) fun u s1 ⟨x, H1, I1, rx, d, es0, ex, hd0, q1⟩ => ?_)
  subst ex
  obtain rfl : u = Value.ref d := rx
  refine ⟨nd_typeIs I1 (.inl hd0.at_), nd_noDict I1 (.inl hd0.at_), ?_⟩
  rw [m.trees]
  refine Calls.callWith_builtin rfl (Calls.evalArgs_plain (Calls.spliced_cons (thn (he.run pins s1 σ H1 _ I1 q1) fun iv s2 ⟨y, H2, I2, ry, q2⟩ =>
    Calls.spliced_cons (thn (hf.run pins s2 σ H2 _ I2 q2) fun fv s3 ⟨z, H3, I3, rz, es, b, p, hd, ey, hb, q3⟩ => Calls.spliced_nil ?_))))
  subst ey
  obtain rfl : iv = Value.ref b := ry
  exact n_get2 hu I3 hd hb rz fun w' s4 I4 rw' => ⟨_, H3, I4, rw', q3⟩
end
end KW
/-! KwLay2: walks of dicts keyed by pairs, list(d), dict(pairs); a text joined from a reversed list; len of an own class; a dict against {}; lists of dicts that differ. -/
namespace KW
open PySem PySem.Spec PyProof.Rows L2

/-! ### {k: v} -/
def oneP (f : V → V → Hp → Prop) : List (V × V) → Hp → Prop
  | [(y, v)], H => f y v H
  | _, _ => False
theorem pe_ndisp {X : Cx} {k v : Expr} {pos : Pos} {tk tv : TE} (hu : X.A.units + 1 < cLine) (hk : PE X k tk) (hv : PE X v tv) : PE X (.Dict [some k] [v] pos) (tNDisp X tk tv) := by
  refine ⟨fun pins s σ H Q I q => ?_⟩
  have hn := I.hok.fresh (Nat.le_refl s.heap.objs.size)
  have I1 := I.laid (a := s.heap.objs.size) (o := NO X.prog X.w s.heap.objs.size []) (h' := s.heap.push { cls := .type "dict", data := .dict #[] }) (t' := s.toks) (fun _ _ q => Heap.get?_push_of_some _ q) (Nat.le_refl _) (nobj_ok (nobj_empty s.heap I.big))
  have P : PPs X pos [some k] [v] [(tk, tv)] := pps_cons hk hv pps_nil
  rw [arm_eval_Dict, zip_pairTrees [some k] [v] X.env pos rfl rfl, dictDisplay_pairs (pairTrees [some k] [v] X.env pos) (by simp [pairTrees]) (by simp [pairTrees])]
  refine wpAny_bind (wpAny_standAt (wpAny_bind (wpAny_subDictH (knd := pairK X.prog X.w) (Q := fun d s' => wpAny (model X.prog X.w) X.A (pure (Value.ref d)) (EP X pins σ Q) X.xe s') (show X.A.units < cLine by omega) (by simp [pairTrees]) ?_)))
  refine thn (P.run pins _ σ _ (oneP fun y v H2 => H2 s.heap.objs.size = some (NO X.prog X.w s.heap.objs.size []) ∧ ∃ b p, y = .ref b ∧ PairAt X.K H2 b p ∧ Q (.ref s.heap.objs.size) (upd H2 s.heap.objs.size (NO X.prog X.w s.heap.objs.size [(p, b, v)]))) I1 (q _ hn)) fun ws s2 ⟨ps, H2, I2, rel, hps⟩ => ?_
  cases rel with
  | nil => exact hps.elim
  | @cons a w as ws r t =>
    cases t with
    | cons _ _ => exact hps.elim
    | nil =>
      obtain ⟨y, v⟩ := a
      obtain ⟨wk, wv⟩ := w
      obtain ⟨hd, b, p, ey, hb, q2⟩ := (show _ ∧ _ from hps)
      subst ey
      obtain rfl : wk = Value.ref b := r.1
      have ND0 : ND X.prog X.w X.K H2 s.heap.objs.size [] := ⟨hd, fun _ h => nomatch h⟩
      obtain ⟨_, _, hs, xs, rel0, dd⟩ := nd_raw I2 (.inl hd) ND0.keys
      cases rel0
      refine ⟨[(pkL p, b, wv)], ⟨rfl, rfl, pair_is I2 hb, trivial⟩, dd, fun h' tk dd' hs' => wpAny_pure ⟨.ref s.heap.objs.size, _, ?_, rfl, q2⟩⟩
      have he : ∃ q, h'.get? s.heap.objs.size = some q := let ⟨q, _, _, hq, _⟩ := dd'; ⟨q, hq⟩
      refine d_write (t' := tk) I2 (by rw [hd]; exact True.intro) hs' he (nobj_ok ?_)
      exact nobj_put (v := v) I2 ND0 (by show 0 < sizeLine; decide) hb r.2 (.nil) dd'

/-! ### walks -/
section
variable {X : Cx} {pins : List (Addr × Obj)} {σ : L2.St} {H : Hp} {s : Shared} {d : Addr} {o : Obj} {es : List NE}
/-- the locked dict's entries -/
theorem frzN (I : Inv X pins σ H s) (h : H d = some (.frz o (NO X.prog X.w d es))) : (d == sysModules) = false ∧ s.heap.get? d = some o ∧ o.ExactDict ∧ ∃ (en : Array DictEntry) (ep : Nat), o.data = .dict en ep ∧ en.size = es.length ∧
    ∀ (i : Nat) (e : NE), es[i]? = some e → ∃ u : DictEntry, en[i]? = some u ∧ u.key = .ref e.2.1 ∧ RelV e.2.2 u.val := by
  obtain ⟨hd, ⟨hn, hl, hs, xs, r, o', en, ep, e1, e2, e3, e4⟩, _⟩ := I.hok d _ h
  rw [hd] at e1
  cases e1
  refine ⟨hs, hd, e2, en, ep, e3, ?_, fun i e he => ?_⟩
  · have l1 : en.size = xs.length := size_of_entries e4
    have l2 : es.length = xs.length := Paired.length r
    omega
  · obtain ⟨x, hx, r1, r2, r3⟩ := paired_get r he
    have q := entry_at e4 i
    rw [hx] at q
    refine ⟨_, q, ?_, r3⟩
    show Value.ref x.2.1 = _
    rw [r2]
/-- the keys of the locked dict, their own tuples -/
def ItkN (P : Program) (w : World) (d : Addr) (o : Obj) (es : List NE) : It :=
  ⟨fun i H => H d = some (.frz o (NO P w d es)) ∧ i < es.length, fun i H x H' => H' = H ∧ ∃ e, es[i]? = some e ∧ x = .ref e.2.1, fun i H => H d = some (.frz o (NO P w d es)) ∧ es.length ≤ i⟩
/-- its pairs, each a new tuple -/
def ItiN (P : Program) (w : World) (d : Addr) (o : Obj) (es : List NE) : It :=
  ⟨fun i H => H d = some (.frz o (NO P w d es)) ∧ i < es.length, fun i H x H' => ∃ T e, es[i]? = some e ∧ x = .ref T ∧ H T = none ∧ H' = upd H T (.tup [.ref e.2.1, e.2.2]), fun i H => H d = some (.frz o (NO P w d es)) ∧ es.length ≤ i⟩
end
section
variable {P : Program} {w : World} {K : PySem.W.Frag} {tg : Expr} {d : Addr} {o : Obj} {en : Array DictEntry} {ep : Nat} {es : List NE}
theorem turn_keysN (it : Addr) (hod : o.data = .dict en ep) : Turn P w K tg (ItkN P w d o es) [it] it (fun i h => h.IsKeyIter it d i es.length ep) where
  mem := by simp
  obj := fun i h st b hb => by
    have e : b = it := by simpa using hb
    subst e
    obtain ⟨oi, e, c, dd⟩ := st
    exact ⟨oi, e, fun v z => by rw [dd] at z; cases z⟩
  keep := fun i h h' st k => st.at fun oi e => k it (by simp) oi e
  item := by
    intro X hP hw hK hc i pins s σ H E I hf st hg
    subst hP hw hK
    obtain ⟨hd, hi⟩ := hg
    obtain ⟨f0, f1, f2, f3, f4, f5⟩ := hf it (by simp)
    obtain ⟨hs, hgd, hx, en', ep', hdt, hsz, ent⟩ := frzN I hd
    obtain ⟨rfl, rfl⟩ := dict_ep hod hdt
    obtain ⟨e, he⟩ : ∃ p, es[i]? = some p := ⟨es[i], List.getElem?_eq_getElem hi⟩
    obtain ⟨u, hu, hkey, _⟩ := ent i e he
    refine next_key_item st hgd hdt hsz hu fun h' st' sb => ?_
    have I1 : Inv X pins σ H { s with heap := h' } := I.turned (t' := s.toks) (fun b ob hb e => (sb.2 b hb).trans e) f0 f1 f3 f4 f5
    obtain ⟨oi, eo, c, dd⟩ := id st'
    exact ⟨u.key, rfl, go_of (s := { s with heap := h' }) eo c dd (by decide) ⟨.ref e.2.1, H, I1, hkey, ⟨rfl, e, he, rfl⟩, st', fun b hb => (hf b hb).1⟩⟩
  done := by
    intro X hP hw hK hc i pins s σ H E I hf st hg
    subst hP hw hK
    obtain ⟨hd, hi⟩ := hg
    obtain ⟨f0, f1, f2, f3, f4, f5⟩ := hf it (by simp)
    obtain ⟨hs, hgd, hx, en', ep', hdt, hsz, ent⟩ := frzN I hd
    obtain ⟨rfl, rfl⟩ := dict_ep hod hdt
    exact next_key_end (I.ok.hd hc) st hgd hdt hsz hi fun h' eb => ⟨rfl, I.turned (t' := s.toks) (fun b ob hb e => eb b ob hb e) f0 f1 f3 f4 f5⟩
  self := fun A i s Q E st h => wpAny_pyIter_keyiter st h
theorem turn_itemsN {elts : List Expr} {kk : Nat} {tpos : Pos} (it : Addr) (hod : o.data = .dict en ep) :
    Turn P w K (.Tuple elts kk tpos) (ItiN P w d o es) [it] it (fun i h => ∃ ok ov, IsItemIter h it d i es.length ep ok ov) where
  mem := by simp
  obj := fun i h st b hb => by
    have e : b = it := by simpa using hb
    subst e
    obtain ⟨ok, ov, e⟩ := st
    exact ⟨_, e, fun v z => nomatch z⟩
  keep := fun i h h' st k => let ⟨ok, ov, e⟩ := st; ⟨ok, ov, k it (by simp) _ e⟩
  item := by
    intro X hP hw hK hc i pins s σ H E I hf st hg
    subst hP hw hK
    obtain ⟨hd, hi⟩ := hg
    obtain ⟨hs, hgd, hx, en', ep', hdt, hsz, ent⟩ := frzN I hd
    obtain ⟨rfl, rfl⟩ := dict_ep hod hdt
    obtain ⟨e, he⟩ : ∃ p, es[i]? = some p := ⟨es[i], List.getElem?_eq_getElem hi⟩
    obtain ⟨u, hu, hkey, hval⟩ := ent i e he
    obtain ⟨ok, ov, hit⟩ := st
    have hlt : it < s.heap.objs.size := Heap.lt_size hit
    have hi2 : i < en'.size := by rw [hsz]; exact hi
    have eu : en'[i] = u := by
      rw [Array.getElem?_eq_getElem hi2] at hu
      exact Option.some.inj hu
    rw [← hsz] at hit
    refine wpAny_pyNext_items_item_raw hit ⟨o, hgd, hx, hdt⟩ hi2 fun h' ho hT hz hk => ?_
    rw [eu] at ho hT
    refine ⟨_, rfl, wpAny_letOwnedTupleGo_items (s := { s with heap := h' }) ho fun h'' he' sb => ?_⟩
    have hT2 : h''.get? s.heap.objs.size = some { cls := .type "tuple", data := .seq #[u.key, u.val] } := (sb.2 _ (Nat.ne_of_gt hlt)).trans hT
    have new : ObjOk X.prog X.w (upd H s.heap.objs.size (.tup [.ref e.2.1, e.2.2])) h'' s.heap.objs.size (.tup [.ref e.2.1, e.2.2]) :=
      ⟨by show 2 ≤ sizeLine; decide, [u.key, u.val], .cons hkey (.cons hval .nil), ⟨_, hT2, rfl, _, rfl⟩⟩
    have I1 : Inv X pins σ (upd H s.heap.objs.size (.tup [.ref e.2.1, e.2.2])) { s with heap := h'' } :=
      I.turnedNew (t' := s.toks) (ch := [it]) (fun b ob hb e => (sb.2 b (by simpa using hb)).trans (hk b ob (by simpa using hb) e)) hf (Nat.le_refl _) new
    refine ⟨.ref s.heap.objs.size, _, I1, rfl, ⟨_, e, he, rfl, I.hok.fresh (Nat.le_refl _), rfl⟩, ⟨u.key, u.val, ?_⟩, fun b hb => ?_⟩
    · rw [hsz] at he'; exact he'
    · have e : b = it := by simpa using hb
      rw [e, upd_ne (Nat.ne_of_lt hlt)]
      exact (hf it (by simp)).1
  done := by
    intro X hP hw hK hc i pins s σ H E I hf st hg
    subst hP hw hK
    obtain ⟨hd, hi⟩ := hg
    obtain ⟨f0, f1, f2, f3, f4, f5⟩ := hf it (by simp)
    obtain ⟨hs, hgd, hx, en', ep', hdt, hsz, ent⟩ := frzN I hd
    obtain ⟨rfl, rfl⟩ := dict_ep hod hdt
    obtain ⟨ok, ov, hit⟩ := st
    rw [← hsz] at hit
    exact wpAny_pyNext_items_end_raw (I.ok.hd hc) hit ⟨o, hgd, hx, hdt⟩ (by rw [hsz]; exact hi) fun h' eb => ⟨rfl, I.turned (t' := s.toks) (fun b ob hb e => eb b ob hb e) f0 f1 f3 f4 f5⟩
  self := fun A i s Q E st h => let ⟨_, _, e⟩ := st; wpAny_pyIter_itemiter e h
end
def iKeysN (X : Cx) (td : TE) : TI := fun σ H R => td σ H fun x H1 => ∃ d o es, x = .ref d ∧ H1 d = some (.frz o (NO X.prog X.w d es)) ∧ R (ItkN X.prog X.w d o es) H1
def iItemsN (X : Cx) (td : TE) : TI := fun σ H R => td σ H fun x H1 => ∃ d o es, x = .ref d ∧ H1 d = some (.frz o (NO X.prog X.w d es)) ∧ R (ItiN X.prog X.w d o es) H1
section
variable {X : Cx} {tg e : Expr} {td : TE} {apos cpos : Pos}
theorem pi_keysN (he : PE X e td) : PI X tg e (iKeysN X td) := by
  refine ⟨fun pins s σ H R I h => ?_⟩
  refine thn (he.run pins s σ H _ I h) fun u s1 ⟨x, H1, I1, rx, d, o, es, ex, hd, q⟩ => ?_
  subst ex
  obtain rfl : u = Value.ref d := rx
  obtain ⟨hs, hgd, hx, en, ep, hdt, hsz, ent⟩ := frzN I1 hd
  refine iter_keys hs hgd hx hdt (pi_one (tk := s1.toks) I1 _ (turn_keysN _ hdt) ⟨_, Heap.get?_push_size _ rfl, rfl, ?_⟩ q)
  rw [hsz] <;> rfl
theorem pi_itemsN {elts : List Expr} {kk : Nat} {tpos : Pos} (he : PE X e td) (hbase : attributeBase e "items" X.env (eval e X.env) = eval e X.env := by rfl) (hline : (apos.endLine == cpos.line) = true := by rfl) :
    PI X (.Tuple elts kk tpos) (.Call (.Attribute e "items" apos) [] [] cpos) (iItemsN X td) := by
  refine ⟨fun pins s σ H R I h => ?_⟩
  refine wpAny_Call_method (T := "dict") (id := "dict.items") hbase rfl hline F.plainAttrs_dict F.slot_dict_items F.type_dict_items (thn (he.run pins s σ H _ I h) fun u s1 ⟨x, H1, I1, rx, d, o, es, ex, hd, q⟩ => ?_)
  subst ex
  obtain rfl : u = Value.ref d := rx
  obtain ⟨hs, hgd, hx, en, ep, hdt, hsz, ent⟩ := frzN I1 hd
  have raw : s1.heap.DictRaw d en ep := ⟨o, hgd, hx, hdt⟩
  refine ⟨raw.typeIs, fun b q => by cases q; exact ⟨o, hgd, hx.2.1⟩, ?_⟩
  have I2 : Inv X pins σ H1 { s1 with heap := s1.heap.push { cls := .type "dict_items", data := .fields #[.ref d] } } := I1.kept (t' := s1.toks) fun b ob q => Heap.get?_push_of_some _ q
  have fin : wpAny (model X.prog X.w) X.A (pyIter (.ref s1.heap.objs.size)) (PIE X pins σ (.Tuple elts kk tpos) R) X.xe { s1 with heap := s1.heap.push { cls := .type "dict_items", data := .fields #[.ref d] } } := by
    refine wpAny_pyIter_items_raw (d := d) ⟨_, Heap.get?_push_size _ rfl, rfl, rfl⟩ (raw.at fun _ e => Heap.get?_push_of_some _ e) (pi_one (tk := s1.toks) I2 _ (turn_itemsN _ hdt) ⟨.none, .none, ?_⟩ q)
    rw [← hsz]
    exact Heap.get?_push_size _ rfl
  show wpAny _ _ (callWith cpos (.builtin "dict.items") [.ref d] [] []) _ X.xe s1
  exact method_meetsIn F.slot_dict_items F.entry_dict_items rfl (PySem.evalArgs_none ⟨rfl, raw.typeIs, F.args_dict_items_1 _, _, meets_dict_items_raw d hs, ⟨en, ep, raw⟩, fin⟩)
end

/-! ### list(d) -/
theorem call_listN {X : Cx} (hcalm : X.calm = true) : CallR X (.type "list") (fun xs H Q => ∃ d es, xs = [.ref d] ∧ H d = some (NO X.prog X.w d es) ∧ ∀ l, H l = none → Q (.ref l) (upd H l (.lst (es.map fun e => V.ref e.2.1)))) := by
  intro pins s σ H xs us Q I r q
  obtain ⟨d, es, ex, hd, q⟩ := q
  subst ex
  obtain ⟨u, eu, rx⟩ := vals1 r
  subst eu
  cases rx
  obtain ⟨hn, hl, hs, xs, rel, o, en, ep, h1, h2, h3, h4⟩ := nobj_of I (.inl hd)
  have raw : s.heap.DictRaw d en ep := ⟨o, h1, h2, h3⟩
  have l1 : en.size = xs.length := size_of_entries h4
  have l2 : es.length = xs.length := Paired.length rel
  refine PySem.W.kdl_call (PySem.KdlSrc.rawDict hs) (I.ok.hd hcalm) raw (by omega) fun h' tk acc c hk hS hacc => ?_
  have vals : Vals (es.map fun e => V.ref e.2.1) acc.toList := by
    have key : ∀ (i : Nat) (e : NE), es[i]? = some e → acc[i]? = some (Value.ref e.2.1) := fun i e he => by
      have hi : i < acc.size := by
        have := (List.getElem?_eq_some_iff.mp he).1
        have := hacc.1
        omega
      obtain ⟨hie, ev⟩ := hacc.2 i acc[i] (Array.getElem?_eq_getElem hi)
      obtain ⟨x, hx, r1, r2, r3⟩ := paired_get rel he
      have qe := entry_at h4 i
      rw [hx, Array.getElem?_eq_getElem hie] at qe
      have qe' := Option.some.inj qe
      rw [Array.getElem?_eq_getElem hi, ev, qe']
      show some (Value.ref x.2.1) = _
      rw [r2]
    have lacc : acc.toList.length = es.length := by rw [Array.length_toList, hacc.1]; omega
    have key2 : ∀ (i : Nat) (e : NE), es[i]? = some e → acc.toList[i]? = some (Value.ref e.2.1) := fun i e he => by
      rw [Array.getElem?_toList]
      exact key i e he
    generalize acc.toList = L at lacc key2
    clear key hacc hS rel l2 hn hl hd q
    induction es generalizing L with
    | nil =>
      cases L with
      | nil => exact .nil
      | cons _ _ => simp at lacc
    | cons e es ih =>
      cases L with
      | nil => simp at lacc
      | cons u L =>
        have e0 := key2 0 e rfl
        have eu : u = Value.ref e.2.1 := by simpa using e0
        rw [List.map_cons]
        exact .cons eu (ih L (by simpa using lacc) fun i e' he' => by simpa using key2 (i + 1) e' (by simpa using he'))
  refine ⟨.ref s.heap.objs.size, upd H s.heap.objs.size (.lst (es.map fun e => V.ref e.2.1)), I.laid (t' := tk) hk (Nat.le_refl _) ⟨by rw [List.length_map]; exact hl, acc.toList, c, vals, ?_⟩, rfl, q _ (I.hok.fresh (Nat.le_refl _))⟩
  rw [hS]

/-! ### dict(pairs) -/
theorem call_dictN {X : Cx} (hcalm : X.calm = true) (hu : X.A.units + 2 < cLine) : CallR X (.type "dict") (fun xs H Q => ∃ (a : Addr) (ps : List Addr) (es : List NE), xs = [.ref a] ∧ SqL X.K H a (ps.map V.ref) ∧ (es.map (·.1)).Nodup ∧ Paired (fun t e => SqT X.K H t [.ref e.2.1, e.2.2]) ps es ∧
    (∀ e ∈ es, PairAt X.K H e.2.1 e.1) ∧ ∀ d, H d = none → Q (.ref d) (upd H d (NO X.prog X.w d es))) := by
  intro pins s σ H xs us Q I r q
  obtain ⟨a, ps, es, ex, hq, hnd, hp, hk, q⟩ := q
  subst ex
  obtain ⟨u, eu, rx⟩ := vals1 r
  subst eu
  cases rx
  obtain ⟨its, rv, pl, hz⟩ := I.list hq
  have ei := refs_at rv
  subst ei
  rw [List.length_map] at hz
  -- the pairs as they lie
  have lay : ∃ prs : List (Value × Value), prs.length = ps.length ∧ Paired (fun (e : NE) (kv : Value × Value) => kv.1 = .ref e.2.1 ∧ RelV e.2.2 kv.2) es prs ∧ ∀ (j : Nat) (k v : Value), prs[j]? = some (k, v) → ∃ t, ps[j]? = some t ∧ IsTup s.heap t #[k, v] := by
    clear q hq rv pl hz hnd hk
    induction hp with
    | nil => exact ⟨[], rfl, .nil, fun j k v e => by simp at e⟩
    | @cons t e ts es h _ ih =>
      obtain ⟨prs, l, rel, at_⟩ := ih
      obtain ⟨its, rv, ht, _⟩ := I.tuple h
      obtain ⟨u, y, ei, ru, ry⟩ := vals2 rv
      subst ei
      refine ⟨(u, y) :: prs, by simp [l], .cons ⟨ru, ry⟩ rel, fun j k v e => ?_⟩
      cases j with
      | zero =>
        have e' : (u, y) = (k, v) := Option.some.inj e
        cases e'
        exact ⟨t, rfl, ht⟩
      | succ j => exact at_ j k v (by simpa using e)
  obtain ⟨prs, lp, rel, at_⟩ := lay
  let Ts : Nat → Addr := fun j => ps.getD j 0
  have PI : PairItems s.heap (ps.map Value.ref).toArray Ts prs := by
    refine ⟨by simp [lp], fun j k v e => ?_⟩
    obtain ⟨t, ht, htup⟩ := at_ j k v e
    have hT : Ts j = t := by simp [Ts, List.getD_eq_getElem?_getD, ht]
    rw [hT]
    refine ⟨by simp [ht], ?_⟩
    obtain ⟨o, h1, h2, n, h3⟩ := htup
    exact .inl ⟨o, h1, h2, n, h3⟩
  have xsR : ∃ xs : List (List Leaf × Addr × Value), Paired NRel es xs ∧ xs.length = prs.length ∧ ∀ (j : Nat) (k v : Value), prs[j]? = some (k, v) → ∃ kk b, xs[j]? = some (kk, b, v) ∧ k = .ref b := by
    clear q hq rv pl hz hnd hk hp at_ PI lp Ts
    induction rel with
    | nil => exact ⟨[], .nil, rfl, fun j k v e => by simp at e⟩
    | @cons e kv es prs h _ ih =>
      obtain ⟨xs, r, l, at2⟩ := ih
      refine ⟨(pkL e.1, e.2.1, kv.2) :: xs, .cons ⟨rfl, rfl, h.2⟩ r, by simp [l], fun j k v ej => ?_⟩
      cases j with
      | zero =>
        have e' : kv = (k, v) := by simpa using ej
        subst e'
        exact ⟨_, _, rfl, h.1⟩
      | succ j => exact at2 j k v (by simpa using ej)
  obtain ⟨xs, rx, lx, hx⟩ := xsR
  have isk : ∀ x ∈ xs, (pairK X.prog X.w).is s.heap x.1 x.2.1 := fun x hx => by
    obtain ⟨e, he, r1, r2, _⟩ := paired_mem rx x hx
    rw [r1, r2]
    exact pair_is I (hk e he)
  have les : es.length = ps.length := (Paired.length hp).symm
  obtain ⟨o, n, ho, hc, hd0, hdat⟩ := pl
  refine call_dict_pairsH (knd := pairK X.prog X.w) (ps := xs) (PairArg.list a (ps.map Value.ref).toArray Ts prs) (I.ok.hd hcalm) (show X.A.in1.in1.units < cLine from hu) ⟨⟨o, n, ho, hc, hd0, hdat⟩, PI⟩ ⟨lx, fun i key v hr => hx i key v hr⟩ (fun h' hk' x hx => ?_) (by omega) fun h' tk dd' hk' => ?_
  · obtain ⟨o, items, n, h1, h2, h3, h4⟩ := isk x hx
    have hne : x.2.1 ≠ s.heap.objs.size := Nat.ne_of_lt (Heap.lt_size h1)
    exact ⟨o, items, n, hk' _ _ hne (by simp) h1, h2, h3, h4⟩
  · have hm : (s.heap.objs.size == sysModules) = false := beq_eq_false_iff_ne.mpr (Nat.ne_of_gt I.big)
    -- no key comes twice: stored as they come
    have st : storedAllH ([] : List (List Leaf × Addr × Value)) xs = xs := by
      have gen : ∀ (l acc : List (List Leaf × Addr × Value)), ((acc ++ l).map (·.1)).Nodup → storedAllH acc l = acc ++ l := by
        intro l
        induction l with
        | nil => intro acc _; rw [List.append_nil]; rfl
        | cons x l ih =>
          intro acc hn
          have hnot : x.1 ∉ acc.map (·.1) := by
            rw [List.map_append, List.map_cons] at hn
            have := (List.nodup_append.mp hn).2.2
            exact fun h => this _ h x.1 (by simp) rfl
          have e1 : storedH acc x.1 x.2.1 x.2.2 = acc ++ [x] := by
            unfold storedH
            have : (atKey acc x.1).isSome = false := by
              unfold atKey
              rw [Option.isSome_map]
              rw [Bool.eq_false_iff]
              intro q
              obtain ⟨y, hy⟩ := Option.isSome_iff_exists.mp q
              have h1 := List.mem_of_find?_eq_some hy
              have h2 : y.1 = x.1 := by simpa using List.find?_some hy
              exact hnot (List.mem_map.mpr ⟨y, h1, h2⟩)
            rw [this]
            rfl
          show storedAllH (storedH acc x.1 x.2.1 x.2.2) l = _
          rw [e1, ih (acc ++ [x]) (by simpa using hn)]
          simp
      have := gen xs [] (by simpa using (NRel.nodup rx).mpr hnd)
      simpa using this
    rw [st] at dd'
    obtain ⟨od, en, ep, h1, h2, h3, h4, h5, h6⟩ := dd'
    refine ⟨.ref s.heap.objs.size, upd H s.heap.objs.size (NO X.prog X.w s.heap.objs.size es), I.laid (t' := tk) (fun b o e => hk' b o (by simp) e) (Nat.le_refl _) (nobj_ok ⟨hnd, by omega, hm, xs, rx, od, en, ep, h1, h2, h3, h4⟩), rfl, q _ (I.hok.fresh (Nat.le_refl _))⟩
end KW
/-! KwLay3: a text joined from a reversed list; len of an own class; a dict against {}; lists of dicts that differ or not. -/
namespace KW
open PySem PySem.Spec PyProof.Rows L2

/-! ### sep.join(reversed(list of texts)) -/
section
variable {prog : Program} {w : World} {A : Around} {E : Value → Shared → Prop} {s : Shared}
theorem strs_rev {its : List Value} {ys : List Str} (h : StrsAre its ys) {acc : Array Value} (ha : ItemsOf (fun i v => its.toArray[its.toArray.size - 1 - i]? = some v) acc its.toArray.size) : StrsAre acc.toList ys.reverse := by
  have e : acc.toList = its.reverse := by
    obtain ⟨h1, h2⟩ := ha
    refine List.ext_getElem? fun i => ?_
    have hs : its.toArray.size = its.length := by simp
    by_cases hi : i < its.length
    · have hi2 : i < acc.size := by omega
      have q := h2 i acc[i] (Array.getElem?_eq_getElem hi2)
      have q' : its[its.length - 1 - i]? = some acc[i] := by simpa using q
      rw [List.getElem?_reverse hi, q', Array.getElem?_toList, Array.getElem?_eq_getElem hi2]
    · rw [List.getElem?_eq_none (by rw [Array.length_toList]; omega), List.getElem?_eq_none (by rw [List.length_reverse]; omega)]
  rw [e]
  clear ha e
  induction h with
  | nil => exact .nil
  | cons y t h ih =>
    rw [List.reverse_cons, List.reverse_cons]
    have app : ∀ {us vs : List Value} {xs zs : List Str}, StrsAre us xs → StrsAre vs zs → StrsAre (us ++ vs) (xs ++ zs) := by
      intro us vs xs zs h1 h2
      induction h1 with
      | nil => exact h2
      | cons y t _ ih => exact .cons y t ih
    exact app ih (.cons y t .nil)
theorem join_rev {x : Str} {t : Tok} {it l : Addr} {its : List Value} {ys : List Str} {Q : Value → Shared → Prop} (hh : A.handled = none) (hit : s.heap.IsRevIter it l ((its.toArray.size : Int) - 1)) (hl : s.heap.IsList l its.toArray) (hne : l ≠ it)
    (hn : its.toArray.size ≤ sizeLine) (hs : StrsAre its ys) (hok : (ys.map (·.length)).sum + ys.length * x.length ≤ 16777216) (hq : ∀ h' tk t', (∀ b o, b ≠ it → s.heap.get? b = some o → h'.get? b = some o) → Q (.str (Txt.join x ys.reverse) t') { s with heap := h', toks := tk }) :
    wpAny (model prog w) A (call (.builtin "str.join") [.str x t, .ref it]) Q E s := by
  refine wpAny_call (codeAny_call_builtin F.slot_str_join.plain F.entry_str_join (F.slot_str_join.check _ _ _ _ _ _ _ _ (typeIs_str _ _ _) (F.args_str_join_2 _ _) ?_))
  rw [join_tree_other]
  refine wpAny_bind (wpAny_typeOf hit.typeIs ?_)
  show wpAny _ A.in1 ((pyIter (.ref it)).tryCatch _ >>= fun it => collect it >>= fun items => joinTail x items) _ _ s
  refine wpAny_bind (wpAny_tryCatch (wpAny_pyIter_revIter hit ?_))
  refine wpAny_bind (RT.collect_rev (A := A.in1) hh hit hl hne hn fun h' tk acc hk hacc => ?_)
  obtain ⟨l', hl', ht⟩ := strsAre_values (strs_rev hs hacc)
  rw [hl']
  have hok2 : (ys.reverse.map (·.length)).sum + ys.reverse.length * x.length ≤ 16777216 := by
    rw [List.map_reverse, List.sum_reverse, List.length_reverse]
    exact hok
  have hok' := joinOk_of hok2
  rw [← ht] at hok'
  unfold JoinOk at hok'
  rw [Bool.not_eq_true'] at hok'
  have g : Gives (joinTail x (strValues l')) (joinMade x l') := by
    have g0 := gives_joinTail x l' hok'
    cases l' with
    | nil => exact g0
    | cons p r => cases r with
      | nil => exact g0
      | cons q r' => exact g0
  refine g prog w A (wants Q E) _ (post_join l' ⟨joinFit_length hok', fun t' k => ?_⟩)
  rw [ht]
  exact hq h' k t' hk
end
def tJoinRev (K : PySem.W.Frag) (to : TE) (ta : TA) : TE := fun σ H Q => to σ H fun x H1 => (∃ a, x = .str a) ∧ ta σ H1 fun vs H2 => ∃ (a : Str) (q : Addr) (ys : List Str), x = .str a ∧ vs = [.ref q] ∧ SqL K H2 q (ys.map V.str) ∧
  (ys.map (·.length)).sum + ys.length * a.length ≤ 16777216 ∧ Q (.str (Txt.join a ys.reverse)) H2
theorem vals_strs : ∀ {ys : List Str} {us : List Value}, Vals (ys.map V.str) us → StrsAre us ys
  | [], us, r => by
    rw [List.map_nil] at r
    cases r
    exact .nil
  | y :: ys, us, r => by
    rw [List.map_cons] at r
    cases r with
    | cons h t =>
      obtain ⟨tk, rfl⟩ := h
      exact .cons y tk (vals_strs t)
theorem pe_joinRev {X : Cx} {o e : Expr} {to : TE} {ta : TA} {apos pos p pos2 : Pos} (hc : X.calm = true) (ho : PE X o to) (hg : Gl X "reversed") (hm : X.mg "reversed" = none) (ha : PA X [e] ta)
    (hs1 : starEach [.Call (.Name "reversed" p) [e] [] pos2] X.env = [(false, eval (.Call (.Name "reversed" p) [e] [] pos2) X.env)] := by rfl) (hs : starEach [e] X.env = [(false, eval e X.env)] := by rfl)
    (hbase : attributeBase o "join" X.env (eval o X.env) = eval o X.env := by rfl) (hline : (apos.endLine == pos.line) = true := by rfl) :
    PE X (.Call (.Attribute o "join" apos) [.Call (.Name "reversed" p) [e] [] pos2] [] pos) (tJoinRev X.K to ta) := by
  refine ⟨fun pins s σ H Q I h => ?_⟩
  refine PySem.Call_method1 hbase hs1 hline (thn (ho.run pins s σ H _ I h) fun v s1 ⟨x, H1, I1, r1, q1⟩ => ?_)
  obtain ⟨⟨a, rfl⟩, q1⟩ := q1
  obtain ⟨t, rfl⟩ := _root_.id r1
  refine ⟨"str", _, F.plainAttrs_str, F.slot_str_join, F.type_str_join, typeIs_str _ _ _, (fun _ e => nomatch e), Calls.callWith_builtin rfl (Calls.evalArgs_plain (Calls.spliced_cons ?_))⟩
  refine Call_ (ld_blt I1 hg hm PyProof.Rows.boot_reversed (PyProof.Rows.callWith_type1 (thn (ha.run pos2 pins s1 σ H1 _ I1 q1) fun us s2 ⟨vs, H2, I2, r2, q2⟩ => ?_) hs rfl))
  obtain ⟨a', q, ys, ea, ev, hq, hz, q3⟩ := q2
  cases ea
  subst ev
  cases r2 with
  | cons r rr =>
    cases rr
    cases r
    obtain ⟨its, rv, pl, hsz⟩ := I2.list hq
    refine call_reversed_list pl.isList ?_
    refine Calls.spliced_nil ?_
    have hlt : q < s2.heap.objs.size := by obtain ⟨o, n, ho, _⟩ := pl; exact Heap.lt_size ho
    refine join_rev (x := a) (t := t) (l := q) (its := its) (ys := ys) (I2.ok.hd hc) ⟨_, Heap.get?_push_size _ rfl, rfl, rfl⟩ (pl.isList.push _) (Nat.ne_of_lt hlt) (by have := rv.length; simp only [List.size_toArray]; omega) (vals_strs rv) hz fun h' tk t' hk => ?_
    exact ⟨.str (Txt.join a ys.reverse), H2, I2.kept (t' := tk) fun b o e => hk b o (Nat.ne_of_lt (Heap.lt_size e)) (Heap.get?_push_of_some _ e), ⟨t', rfl⟩, q3⟩

/-! ### len(o), o of an own class with __len__ -/
theorem call_lenK {X : Cx} {CX : CXT} {C f : Addr} {fd : FuncData} {ps : List Str} {sp : Sp} {n : Nat} (F : FnOk X.prog X.w X.K X.mg X.base CX n f fd ps sp) (hs : PySem.W.findIn X.K (.ref C) "__len__" = some (some (.ref f)))
    (hf : PySem.W.isFn X.K (.ref f) = true) (hb : Binds X.K fd ps []) (hx : Passes CX X E0) (hr : Room (n + 1) X.A) :
    CallR X (.builtin "len") (fun xs H Q => ∃ a dx fs, xs = [.ref a] ∧ H a = some (.ins C dx fs) ∧ sp [.ref a] H (fun v H' => ∃ k : Int, v = .int k ∧ (0 ≤ k ∧ k < 2 ^ 63) ∧ Q (.int k) H') E0) := by
  intro pins s σ H xs us Q I r h
  obtain ⟨a, dx, fs, ex, ha, hsp⟩ := h
  subst ex
  obtain ⟨u, eu, rx⟩ := vals1 r
  subst eu
  cases rx
  obtain ⟨mA, J, _⟩ := ins_get I.hok ha
  obtain ⟨od, J, _⟩ := J.look
  obtain ⟨m, hF⟩ := I.fr
  refine PySem.W.len_K hF I.ok.mod.kin J hs hf ?_
  have e0 : Env0 X.prog X.w X.K X.mg X.base X.A.in1 X.stack s H := by
    have e := I.env0
    exact ⟨e.frames, e.mod, e.bs, e.bsz, e.funs, e.frf, e.hok, e.bare⟩
  have hl := F.len _ _ _ _ hsp
  refine wpAny_call (codeAny_mono (F.run X.A.in1 X.stack s H ⟨[.ref a], []⟩ [.ref a] [.ref a] _ E0 hr.in1 e0 (by
    have := hb s [.ref a] I.kIn (by simpa using hl)
    simpa using this) (.cons rfl .nil) hsp) fun r s' hq => ?_)
  cases r with
  | error e => exact hx pins σ H s e s' I hq
  | ok fl =>
    cases fl with
    | ret w =>
      obtain ⟨z, H', I', rz, k, ez, hk, q⟩ := I.after hq
      subst ez
      obtain ⟨t, rfl⟩ := rz
      exact ⟨hk, ⟨.int k, H', I'.tok _, ⟨_, rfl⟩, q⟩⟩
    | next => exact False.elim hq
    | brk => exact False.elim hq
    | cont => exact False.elim hq

/-! ### d == {} -/
theorem op_eq_empty {X : Cx} (hu : X.A.units < cLine) : OpR X (compareOp .Eq) (fun x y H Q => ∃ a b ks, x = .ref a ∧ y = .ref b ∧ H a = some (.dK ks) ∧ H b = some (.dK []) ∧ Q (.bl (decide (ks = []))) H) := by
  intro pins s σ H x y v u Q I rx ry h
  obtain ⟨a, b, ks, rfl, rfl, ea, eb, q⟩ := h
  obtain rfl : v = Value.ref a := rx
  obtain rfl : u = Value.ref b := ry
  obtain ⟨_, ya, va, ra, da⟩ := (show ObjOk X.prog X.w H s.heap a (.dK ks) from I.hok a _ ea)
  obtain ⟨_, yb, vb, rb, db⟩ := (show ObjOk X.prog X.w H s.heap b (.dK []) from I.hok b _ eb)
  cases rb
  refine PySem.W.keq_eq (knd := mixKind X.prog X.w) (r := true) ya yb da db hu (fun hl => ?_) (fin_bl I q ?_)
  · have e : va = [] := List.length_eq_zero_iff.mp hl
    subst e
    exact .nil
  · cases ra with
    | nil => rfl
    | cons _ _ => simp
end KW
/-! KwNe: [d1] != [d2] of two dicts that are alike. -/
namespace KW
section
open PySem PySem.SeqAt
open AutoSeq1 (wpAny_loadPart')
open MeetsSeq MeetsSeq2 MeetsSeq3 SeqRoads2
variable {prog : Program} {w : World} {p q : Addr} {x y : Value} {m k : Nat} {dp dq : Option Addr} {zp zq : Array (Option Value)}
/-- the things xs at p, in the heap h -/
abbrev PadAt (h : Heap) (p : Addr) (xs : Array Value) (m : Nat) (dp : Option Addr) (zp : Array (Option Value)) : Prop := h.get? p = some { cls := .type "list", dict := dp, data := .seq xs m, slots := zp }
/-- xs and ys are one thing long; their things are x and y -/
structure Ones (xs ys : Array Value) (x y : Value) : Prop where
  fx : xs[((0 : Nat) : Int).toNat]? = some x
  fy : ys[((0 : Nat) : Int).toNat]? = some y
  ex : xs[((0 : Nat) + 1 : Int).toNat]? = none
  ey : ys[((0 : Nat) + 1 : Int).toNat]? = none
  sz : xs.size = ys.size
variable {xs ys : Array Value}
/-- behind the only pair of things -/
theorem past_one (K : Ones xs ys x y) : MeetsIn prog w (Builtin.«list.__eq__.loop» ⟨[.ref p, .ref q, rawInt ((0 : Nat) + 1 : Int), rawInt 3], []⟩)
    (fun A R s => (PadAt s.heap p xs m dp zp ∧ PadAt s.heap q ys k dq zq) ∧ R (.ok (.ret (.bool false))) s) := by
  rintro A R ⟨hp, g, d, tk, os⟩ ⟨⟨op, oq⟩, fin⟩
  wp_walk using wpAny_loadPart' op, wpAny_loadPart' oq
  rw [K.ex, K.ey]
  wp_walk using wpAny_loadPart' op, wpAny_loadPart' oq
  have flat : (xs.size != ys.size) = false := by simp [K.sz]
  first
    | exact (flat ▸ fin)
    | (show R (.ok (.ret (.bool (xs.size != ys.size)))) _
       rw [flat]
       exact fin)
/-- the only pair of things is equal -/
theorem at_one (K : Ones xs ys x y) : MeetsIn prog w (Builtin.«list.__eq__.loop» ⟨[.ref p, .ref q, rawInt ((0 : Nat) : Int), rawInt 3], []⟩)
    (fun A R s => (PadAt s.heap p xs m dp zp ∧ PadAt s.heap q ys k dq zq) ∧ EqIn prog w A.in1 s x y true ∧ R (.ok (.ret (.bool false))) s) := by
  rintro A R ⟨hp, g, d, tk, os⟩ ⟨⟨op, oq⟩, alike, fin⟩
  wp_walk using wpAny_loadPart' op, wpAny_loadPart' oq
  rw [K.fx, K.fy]
  refine wpAny_bind (alike _ _ ?_)
  wp_walk
  refine ⟨plainId_quiet plain_eq_loop _, codeAny_builtin entry_eq_loop ?_⟩
  rw [Around.under_plainId plain_eq_loop _]
  exact past_one K A R _ ⟨⟨op, oq⟩, fin⟩
theorem ne_ones (K : Ones xs ys x y) : MeetsIn prog w (Builtin.«list.__ne__» ⟨[.ref p, .ref q], []⟩)
    (fun A R s => (PadAt s.heap p xs m dp zp ∧ PadAt s.heap q ys k dq zq) ∧ EqIn prog w A.in1 s x y true ∧ R (.ok (.ret (.bool false))) s) := by
  rintro A R ⟨hp, g, d, tk, os⟩ ⟨⟨op, oq⟩, alike, fin⟩
  have sub := AutoSeq1.sub_list_list
  have same : ¬ (xs.size != ys.size) = true := by simp [K.sz]
  wp_walk using wpAny_loadPart' op, wpAny_loadPart' oq
  refine ⟨plainId_quiet plain_eq_loop _, codeAny_builtin entry_eq_loop ?_⟩
  rw [Around.under_plainId plain_eq_loop _]
  exact at_one K A R _ ⟨⟨op, oq⟩, alike, fin⟩
theorem ones_alike {A : Around} {s : Shared} {E Q : Value → Shared → Prop} (op : s.heap.IsList p #[x]) (oq : s.heap.IsList q #[y]) (room : A.units < cLine) (alike : EqIn prog w A.in1 s x y true) (fin : Q (.bool false) s) :
    wpAny (model prog w) A (richCompare .NotEq (.ref p) (.ref q)) Q E s := by
  obtain ⟨⟨c1, d1, b1, z1⟩, at1, e1, m1, f1⟩ := op
  obtain ⟨⟨c2, d2, b2, z2⟩, at2, e2, m2, f2⟩ := oq
  obtain rfl : c1 = .type "list" := e1
  obtain rfl : b1 = .seq #[x] m1 := f1
  obtain rfl : c2 = .type "list" := e2
  obtain rfl : b2 = .seq #[y] m2 := f2
  have ends : Value.bool false ≠ Value.notImplemented ∧ Q (.bool false) s := ⟨fun z => (nomatch z), fin⟩
  exact wpAny_richCompare_same_room (T := "list") (op := .NotEq) ⟨_, at1, rfl⟩ ⟨_, at2, rfl⟩ F.slot_list_ne
    (call_meetsIn F.slot_list_ne ⟨_, at1, rfl⟩ F.entry_list_ne (F.args_list_ne_2 _ _) (ne_ones (xs := #[x]) (ys := #[y]) ⟨rfl, rfl, rfl, rfl, rfl⟩) ⟨⟨at1, at2⟩, alike, ends⟩) room
end
section
open PySem PySem.Spec PyProof.Rows L2
/-- [d1] != [d2], the dicts equal -/
def rNeRow1 (K : PySem.W.Frag) : R2 := fun x y H Q => ∃ a b ra rb ks ls, x = .ref a ∧ y = .ref b ∧ H a = some (.lst [.ref ra]) ∧ H b = some (.lst [.ref rb]) ∧ ra ≠ rb ∧ H ra = some (.dK ks) ∧ H rb = some (.dK ls) ∧ ks.length = ls.length ∧ (∀ p ∈ ks, valV ls p.1 = some p.2 ∧ flatB p.2 = true) ∧ Q (.bl false) H
theorem op_neRow1 {X : Cx} (hu : X.A.units + 1 < cLine) : OpR X (compareOp .NotEq) (rNeRow1 X.K) := by
  rintro pins s σ H x y v u Q I rx ry ⟨a, b, ra, rb, ks, ls, rfl, rfl, ha, hb, hne, ea, eb, hlen, hp, q⟩
  cases (show v = Value.ref a from rx)
  cases (show u = Value.ref b from ry)
  obtain ⟨_, na, va, rva, da⟩ := (show ObjOk X.prog X.w H s.heap ra (.dK ks) from I.hok ra _ ea)
  obtain ⟨_, nb, vb, rvb, db⟩ := (show ObjOk X.prog X.w H s.heap rb (.dK ls) from I.hok rb _ eb)
  have sizes : va.length = vb.length := (rva.length.symm.trans hlen).trans rvb.length
  obtain ⟨its, rv, pl, _⟩ := I.list (SqL.of ha)
  obtain ⟨its2, rv2, pl2, _⟩ := I.list (SqL.of hb)
  obtain ⟨u1, e1, r1⟩ := vals1 rv
  obtain ⟨u2, e2, r2⟩ := vals1 rv2
  subst e1 e2
  cases (show u1 = Value.ref ra from r1)
  cases (show u2 = Value.ref rb from r2)
  refine ones_alike pl.isList pl2.isList (Nat.lt_of_succ_lt hu) (PySem.SeqAt.EqIn.of_refs hne fun E Q2 hq => ?_) ⟨.bl false, H, I, rfl, q⟩
  exact PySem.W.keq_eq (knd := mixKind X.prog X.w) (r := true) na nb da db (show X.A.in1.units < cLine from hu) (fun _ => hits_all rvb rva hp) (by simpa [sizes] using hq)
end
end KW
/-! KwData: the text by places; how rows, tables, kinds, weathers stand in the heap; what a def is known to do. -/
namespace KW
open PySem PySem.Spec PyProof.Rows L2
def top (i : Nat) : Stmt := PySem.Challenge.pw_lightturns_k29_whole_kinds_together.main.body.getD i (.Pass ⟨0, 0, 0, 0⟩)

/-! ### letters, rows, tables -/
def lt (c : Nat) : Str := ⟨#[c]⟩
theorem lt_inj {c d : Nat} (h : lt c = lt d) : c = d := by
  have h1 : (#[c] : Array Nat) = #[d] := congrArg Str.cps h
  simpa using h1
abbrev lV (c : Nat) : V := .str (lt c)
abbrev abcL : List Nat := [97, 98, 99, 100, 101, 102, 103, 104, 105, 106, 107, 108, 109, 110, 111, 112, 113, 114, 115, 116, 117, 118, 119, 120, 121, 122]
abbrev abc : Str := ⟨#[97, 98, 99, 100, 101, 102, 103, 104, 105, 106, 107, 108, 109, 110, 111, 112, 113, 114, 115, 116, 117, 118, 119, 120, 121, 122]⟩
def rowD (r : Row) : List (Key × V) := r.map fun x => (Sum.inr (lt x.1), V.int (x.2 : Int))
def RowAt (H : Hp) (a : Addr) (r : Row) : Prop := H a = some (.dK (rowD r))
def TabAt (H : Hp) (l : Addr) (T : Tab) : Prop := ∃ as : List Addr, H l = some (.lst (as.map V.ref)) ∧ Paired (RowAt H) as T
theorem paired_mono {A B : Type} {R S : A → B → Prop} (h : ∀ a b, R a b → S a b) : ∀ {l : List A} {m : List B}, Paired R l m → Paired S l m
  | _, _, .nil => .nil
  | _, _, .cons r t => .cons (h _ _ r) (paired_mono h t)
theorem paired_snoc {A B : Type} {R : A → B → Prop} {a : A} {b : B} (h : R a b) : ∀ {l : List A} {m : List B}, Paired R l m → Paired R (l ++ [a]) (m ++ [b])
  | _, _, .nil => .cons h .nil
  | _, _, .cons r t => .cons r (paired_snoc h t)
theorem TabAt.keep {H H' : Hp} {l : Addr} {T : Tab} (h : TabAt H l T) (k1 : ∀ as : List Addr, H l = some (.lst (as.map V.ref)) → H' l = some (.lst (as.map V.ref))) (k2 : ∀ a kvs, H a = some (.dK kvs) → H' a = some (.dK kvs)) : TabAt H' l T := by
  obtain ⟨as, h1, h2⟩ := h
  exact ⟨as, k1 as h1, paired_mono (fun a r q => k2 _ _ q) h2⟩
theorem TabAt.same {H H' : Hp} {l : Addr} {T : Tab} (h : TabAt H l T) (s : Same H H') : TabAt H' l T := h.keep (fun _ q => s _ _ q) fun _ _ q => s _ _ q
theorem TabAt.row {H : Hp} {l : Addr} {T : Tab} (h : TabAt H l T) {i : Nat} {r : Row} (hr : T[i]? = some r) : ∃ (as : List Addr) (a : Addr), H l = some (.lst (as.map V.ref)) ∧ as[i]? = some a ∧ RowAt H a r := by
  obtain ⟨as, h1, h2⟩ := h
  obtain ⟨a, ha, hra⟩ := paired_get' h2 hr
  exact ⟨as, a, h1, ha, hra⟩
theorem TabAt.len {H : Hp} {l : Addr} {T : Tab} (h : TabAt H l T) : ∃ as : List Addr, H l = some (.lst (as.map V.ref)) ∧ as.length = T.length := by
  obtain ⟨as, h1, h2⟩ := h
  exact ⟨as, h1, Paired.length h2⟩
theorem valV_rowD {r : Row} {c : Nat} : valV (rowD r) (Sum.inr (lt c)) = (r.lookup c).map fun n => V.int (n : Int) := by
  unfold valV rowD
  induction r with
  | nil => rfl
  | cons x r ih =>
    rw [List.map_cons, List.find?_cons, List.lookup_cons]
    by_cases e : x.1 = c
    · subst e
      simp
    · have h1 : ¬ (Sum.inr (lt x.1) : Key) = Sum.inr (lt c) := fun q => e (lt_inj (Sum.inr.inj q))
      have h2 : (c == x.1) = false := by simpa using fun q => e q.symm
      rw [decide_eq_false h1, h2]
      exact ih
theorem rowD_get {r : Row} {i : Nat} (hi : i < (rowD r).length) : ∃ x, r[i]? = some x ∧ x ∈ r ∧ (rowD r)[i]? = some (Sum.inr (lt x.1), V.int (x.2 : Int)) := by
  have hi' : i < r.length := by simpa [rowD] using hi
  refine ⟨r[i], List.getElem?_eq_getElem hi', List.getElem_mem hi', ?_⟩
  unfold rowD
  rw [List.getElem?_map, List.getElem?_eq_getElem hi']
  rfl
theorem rowD_len (r : Row) : (rowD r).length = r.length := by simp [rowD]
abbrev rLenS (K : PySem.W.Frag) : List V → Hp → VK → Prop := fun xs H Q => ∃ p ys, xs = [V.ref p] ∧ (SqL K H p ys ∨ SqT K H p ys) ∧ Q (.int ys.length) H
theorem paired_get {A B : Type} {R : A → B → Prop} {l : List A} {m : List B} (h : Paired R l m) : ∀ {i : Nat} {a : A}, l[i]? = some a → ∃ b, m[i]? = some b ∧ R a b := by
  induction h with
  | nil => intro i b e; simp at e
  | cons r t ih =>
    intro i b e
    cases i with
    | zero =>
      simp at e
      subst e
      exact ⟨_, rfl, r⟩
    | succ i => exact ih (by simpa using e)
/-- 26 letters at most -/
theorem WF.row_len {T : Tab} (h : WF T) {r : Row} (hr : r ∈ T) : r.length ≤ 26 := by
  obtain ⟨_, hn, hx⟩ := h.row r hr
  have := nodup_sub_len (m := (List.range 26).map (· + 97)) hn fun c hc => by
    obtain ⟨x, hxr, e⟩ := List.mem_map.mp hc
    subst e
    obtain ⟨⟨h1, h2⟩, _⟩ := hx x hxr
    exact List.mem_map.mpr ⟨x.1 - 97, List.mem_range.mpr (by omega), by omega⟩
  simpa using this
/-- a kind of weather, with its table -/
structure KAt (C : Addr) (H : Hp) (k : Addr) (T : Tab) : Prop where
  at_ : ∃ dx l, H k = some (.ins C dx [("rows", .ref l)]) ∧ TabAt H l T
  wf : WF T
  len : T.length ≤ 1000
theorem KAt.same {C : Addr} {H H' : Hp} {k : Addr} {T : Tab} (h : KAt C H k T) (s : Same H H') : KAt C H' k T := by
  obtain ⟨⟨dx, l, h1, h2⟩, h3, h4⟩ := h
  exact ⟨⟨dx, l, s _ _ h1, h2.same s⟩, h3, h4⟩
theorem KAt.ne {C : Addr} {H : Hp} {k p : Addr} {T : Tab} (h : KAt C H k T) (hp : H p = none) : k ≠ p := by
  obtain ⟨⟨dx, l, h1, h2⟩, h3, h4⟩ := h
  exact ne_of_none h1 hp
theorem same_upd {H : Hp} {p : Addr} {o : HO} (h : H p = none) : Same H (upd H p o) := fun b u e => by rw [upd_ne (ne_of_none e h)]; exact e
theorem sameU {H H' : Hp} {p : Addr} {o : HO} (s : Same H H') (h : H' p = none) : Same H (upd H' p o) := s.trans (same_upd h)
/-- changed at a place that was not there -/
theorem sameP {H H' : Hp} {p : Addr} {o : HO} (s : Same H H') (h : H p = none) : Same H (L2.upd H' p o) := fun b u e => by rw [upd_ne (ne_of_none e h)]; exact s _ _ e
theorem sameK {H H' : Hp} {a : Addr} {od : Obj} {u : HO} (h : H a = some u) (s : Same (L2.upd H a (.frz od u)) H') : Same H (L2.upd H' a u) := by
  intro b o e
  by_cases hb : b = a
  · subst hb
    rw [upd_same]
    rw [h] at e
    exact e
  · rw [upd_ne hb]
    exact s b o (by rw [upd_ne hb]; exact e)
theorem rep_snoc {A : Type} (n : Nat) (x : A) : List.replicate n x ++ [x] = List.replicate (n + 1) x := (List.replicate_succ' ..).symm
theorem all_rep_true (n : Nat) : (List.replicate n true).all id = true := by
  rw [List.all_eq_true]
  intro b hb
  rw [(List.mem_replicate.mp hb).2]
  rfl
/-- a weather's text -/
def wS (w : List Nat) : Str := ⟨w.toArray⟩

/-! ### defs -/
section
variable (P : Program) (w : World) (K : PySem.W.Frag) (mg : Str → Option Value) (base : Heap)
/-- the def x keeps the promise sp -/
structure Def (CX : CXT) (k : Nat) (x : Str) (ps : List Str) (sp : Sp) : Prop where
  ex : ∃ f fd, FnOk P w K mg base CX k f fd ps sp ∧ mg x = some (.ref f) ∧ PySem.W.keepIn K (.ref f) = true ∧ Binds K fd ps []
/-- the def x stands as it is written -/
structure Here (x : Str) (st : Stmt) (ps : List Str) : Prop where
  ex : ∃ f fd, Fun K x x st f fd ∧ mg x = some (.ref f) ∧ Binds K fd ps []
end
section
variable {P : Program} {w : World} {K : PySem.W.Frag} {mg : Str → Option Value} {base : Heap}
theorem Here.def {CX : CXT} {k : Nat} {x : Str} {st : Stmt} {ps : List Str} {sp : Sp} (h : Here K mg x st ps) (ok : ∀ f fd, Fun K x x st f fd → FnOk P w K mg base CX k f fd ps sp) : Def P w K mg base CX k x ps sp := by
  obtain ⟨f, fd, F, hm, hb⟩ := h.ex
  exact ⟨f, fd, ok f fd F, hm, F.kp, hb⟩
end
section
variable {X : Cx} {CX : CXT} {j k : Nat} {x : Str} {ps : List Str} {sp : Sp} {E : XK} {p pos : Pos} {e : Expr} {es : List Expr} {t : TA}
theorem pe_callD (D : Def X.prog X.w X.K X.mg X.base CX j x ps sp) (hr : Room k X.A) (hx : Passes CX X E) (ha : PA X (e :: es) t) (hjk : j ≤ k := by decide) (hg : Gl X x := by rfl) (hdb : (x == ("__debug__" : Str)) = false := by decide)
    (he : starEach (e :: es) X.env = (false, eval e X.env) :: starEach es X.env := by rfl) (hpl : (backTo pos (starEach es X.env)).any (·.1) = false := by rfl) : PE X (.Call (.Name x p) (e :: es) [] pos) (tCall sp [] E t) := by
  obtain ⟨f, fd, G, hm, hk, hb⟩ := D.ex
  exact pe_call (hdb := hdb) G (hr.mono hjk) hg hm hk hb .nil hx ha (he := he) (hpl := hpl)
end
/-- built-in names that the program leaves as they are; its constants -/
structure TX (K : PySem.W.Frag) (mg : Str → Option Value) : Prop where
  isi : mg "isinstance" = none
  int : mg "int" = none
  bool : mg "bool" = none
  list : mg "list" = none
  tuple : mg "tuple" = none
  str : mg "str" = none
  dict : mg "dict" = none
  len : mg "len" = none
  all : mg "all" = none
  sorted : mg "sorted" = none
  rev : mg "reversed" = none
  enum : mg "enumerate" = none
  range : mg "range" = none
  max : mg "max" = none
  min : mg "min" = none
  zip : mg "zip" = none
  letters : ∃ t, mg "LETTERS" = some (.str abc t)
  rows : ∃ t, mg "MOST_ROWS" = some (.int 1000 t)
  made : ∃ t, mg "MOST_MADE" = some (.int 400 t)
  first : ∃ tp, mg "FIRST_PAIR" = some (.ref tp) ∧ ∀ H, SqT K H tp [.int 0, .int 0]
/-- the class Kind at C -/
structure TK (K : PySem.W.Frag) (mg : Str → Option Value) (C : Addr) : Prop where
  cls : Cls K C
  nR : NoAttr K C "rows"
  mgC : mg "Kind" = some (.ref C)
  ty : ∀ (H : Hp) (a dx : Addr) (fs : List (Str × V)), H a = some (.ins C dx fs) → TyX K H (.ref a) (.ref C)
section
variable (P : Program) (w : World) (K : PySem.W.Frag) (mg : Str → Option Value) (base : Heap)
/-- the class's method m keeps the promise sp -/
structure DefM (CX : CXT) (k : Nat) (C : Addr) (m : Str) (ps : List Str) (sp : Sp) : Prop where
  ex : ∃ f fd, FnOk P w K mg base CX k f fd ps sp ∧ Meth K C m f ∧ Binds K fd ps []
end
section
variable {X : Cx} {CX : CXT} {j k : Nat} {C : Addr} {m : Str} {ps : List Str} {sp : Sp} {E : XK} {apos pos : Pos} {o : Expr} {ta : TE}
theorem pe_methD0 (D : DefM X.prog X.w X.K X.mg X.base CX j C m ps sp) (c : Cls X.K C) (hr : Room k X.A) (hx : Passes CX X E) (he : PE X o ta) {pl : Sem Bool} (hjk : j ≤ k := by decide)
    (ht : eval (.Call (.Attribute o m apos) [] [] pos) X.env = (do
      let ov ← eval o X.env
      standAt apos.atName
      let (f, first) ← holding [ov] (getMethod ov m pl)
      callWith pos f first (backTo pos (starEach [] X.env)) (backToKw pos (keywordEach [] X.env))) := by rfl) : PE X (.Call (.Attribute o m apos) [] [] pos) (tMeth C m sp [] E ta tNil) := by
  obtain ⟨f, fd, G, hm, hb⟩ := D.ex
  exact pe_meth0 he c hm G (hr.mono hjk) hb .nil hx (ht := ht)
end
end KW
/-! KwD1: is_whole, is_list, is_within, is_letter, is_row, is_table. -/
namespace KW
open PySem PySem.Spec PyProof.Rows L2
abbrev sWhole : Stmt := top 10
abbrev sList : Stmt := top 11
abbrev sWithin : Stmt := top 17
abbrev sLetter : Stmt := top 18
abbrev sRow : Stmt := top 19
abbrev sTable : Stmt := top 20
def spWhole : Sp := fun vs H Q _ => ∃ i a : Int, vs = [.int i, .int a] ∧ Q (.bl (decide (a ≤ i))) H
def spIsList : Sp := fun vs H Q _ => ∃ l xs, vs = [.ref l] ∧ H l = some (.lst xs) ∧ ∀ H', Same H H' → Q (.bl true) H'
def spWithin : Sp := fun vs H Q _ => ∃ i a b : Int, vs = [.int i, .int a, .int b] ∧ Q (.bl (decide (a ≤ i) && decide (i ≤ b))) H
def spLetter : Sp := fun vs H Q _ => ∃ c : Nat, vs = [lV c] ∧ (97 ≤ c ∧ c ≤ 122) ∧ Q (.bl true) H
def spIsRow : Sp := fun vs H Q _ => ∃ (a : Addr) (n : Int) (r : Row), vs = [.ref a, .int n] ∧ RowAt H a r ∧ r ≠ [] ∧ r.length ≤ 26 ∧ (∀ x ∈ r, (97 ≤ x.1 ∧ x.1 ≤ 122) ∧ (x.2 : Int) < n) ∧ ∀ H', Same H H' → Q (.bl true) H'
def spIsTable : Sp := fun vs H Q _ => ∃ (l : Addr) (T : Tab), vs = [.ref l] ∧ TabAt H l T ∧ WF T ∧ T.length ≤ 1000 ∧ ∀ H', Same H H' → Q (.bl true) H'
section
variable {P : Program} {w : World} {K : PySem.W.Frag} {mg : Str → Option Value} {base : Heap}
theorem scWhole : FnScope ["thing", "least"] ["thing", "least"] (defScope sWhole) := ⟨rfl, rfl, rfl, by decide +kernel, rfl, by decide +kernel, by decide +kernel⟩
theorem ok_whole {f : Addr} {fd : FuncData} (F : FunD K "is_whole" "is_whole" (defArgs sWhole) (defBody sWhole) (defScope sWhole) [V.int 0] [] f fd) (T : TX K mg) : FnOk P w K mg base CX0 1 f fd ["thing", "least"] spWhole := by
  refine F.ok scWhole (fun vs H Q E h => ?_) (fun cdv A outer s H vs Q E hr h => ?_)
  · obtain ⟨i, a, rfl, _⟩ := h
    rfl
  · obtain ⟨i, a, rfl, k⟩ := h
    refine ⟨_, PSs.nox (pss_one (ps_ret (pe_and (pe_callB call_isi (by rfl) T.isi (by decide +kernel) (pa_cons (pv 0) (pa_cons (pe_bltn (v := .ty "int") (by rfl) T.int (by decide +kernel) rfl) pa_nil)))
      (pe_and (pe_not (pe_callB call_isi (by rfl) T.isi (by decide +kernel) (pa_cons (pv 0) (pa_cons (pe_bltn (v := .ty "bool") (by rfl) T.bool (by decide +kernel) rfl) pa_nil)))) (pe_one (pe_cmpR op_ge (pv 0) (pv 1) (nomark _))))))), ?_⟩
    refine ⟨_, rfl, .int i, .ty "int", .type "int", .type "int", true, rfl, .ty _, .base (.int _), kit_ty (by decide +kernel), true, rfl, iteT ?_⟩
    refine ⟨_, rfl, .int i, .ty "bool", .type "int", .type "bool", false, rfl, .ty _, .base (.int _), kit_ty (by decide +kernel), false, rfl, true, rfl, iteT ?_⟩
    exact ⟨_, rfl, _, rfl, i, a, rfl, rfl, k⟩
theorem scList : FnScope ["thing"] ["thing"] (defScope sList) := ⟨rfl, rfl, rfl, by decide +kernel, rfl, by decide +kernel, by decide +kernel⟩
theorem ok_list {f : Addr} {fd : FuncData} (F : Fun K "is_list" "is_list" sList f fd) (T : TX K mg) : FnOk P w K mg base CX0 1 f fd ["thing"] spIsList := by
  refine F.ok scList (fun vs H Q E h => ?_) (fun cdv A outer s H vs Q E hr h => ?_)
  · obtain ⟨l, xs, rfl, _⟩ := h
    rfl
  · obtain ⟨l, xs, rfl, hl, k⟩ := h
    refine ⟨_, pss_one (ps_ret (pe_callB call_isiT (by rfl) T.isi (by decide +kernel) (pa_cons (pv 0) (pa_cons (pe_tup (pa_cons (pe_bltn (v := .ty "list") (by rfl) T.list (by decide +kernel) rfl) (pa_cons (pe_bltn (v := .ty "tuple") (by rfl) T.tuple (by decide +kernel) rfl) pa_nil))) pa_nil)))), ?_⟩
    refine ⟨_, rfl, by show 2 ≤ sizeLine; decide, fun t nt => ?_⟩
    refine ⟨.ref l, t, [.ty "list", .ty "tuple"], .type "list", [.type "list", .type "tuple"], true, rfl, upd_same, .cons (.ty _) (.cons (.ty _) .nil), .base (.lst (xs := xs) (by rw [upd_ne (ne_of_none hl nt)]; exact hl)), ?_, k _ (same_upd nt)⟩
    exact kitAny_cons (b := true) (kit_ty (by decide +kernel)) (fun z => nomatch z) (fun _ => rfl)
theorem scWithin : FnScope ["thing", "least", "most"] ["thing", "least", "most"] (defScope sWithin) := ⟨rfl, rfl, rfl, by decide +kernel, rfl, by decide +kernel, by decide +kernel⟩
theorem ok_within {f : Addr} {fd : FuncData} (F : Fun K "is_within" "is_within" sWithin f fd) (D : Def P w K mg base CX0 1 "is_whole" ["thing", "least"] spWhole) : FnOk P w K mg base CX0 2 f fd ["thing", "least", "most"] spWithin := by
  refine F.ok scWithin (fun vs H Q E h => ?_) (fun cdv A outer s H vs Q E hr h => ?_)
  · obtain ⟨i, a, b, rfl, _⟩ := h
    rfl
  · obtain ⟨i, a, b, rfl, k⟩ := h
    refine ⟨_, pss_one (ps_ret (pe_and (pe_callD D hr pass0 (pa_cons (pv 0) (pa_cons (pv 1) pa_nil))) (pe_one (pe_cmpR op_le (pv 0) (pv 2) (nomark _))))), ?_⟩
    refine ⟨_, rfl, _, rfl, i, a, rfl, _, rfl, ite2 (fun h => ?_) (fun h => ?_)⟩
    · rw [h] at k
      exact ⟨_, rfl, _, rfl, i, b, rfl, rfl, k⟩
    · have e : decide (a ≤ i) = false := by simpa using h
      rw [e] at k
      exact k
theorem scLetter : FnScope ["thing"] ["thing"] (defScope sLetter) := ⟨rfl, rfl, rfl, by decide +kernel, rfl, by decide +kernel, by decide +kernel⟩
theorem in_letters {c : Nat} (h : 97 ≤ c ∧ c ≤ 122) : c ∈ abcL := by
  have : ∀ d, d < 26 → d + 97 ∈ abcL := by decide
  have q := this (c - 97) (by omega)
  rwa [show c - 97 + 97 = c by omega] at q
theorem ok_letter {f : Addr} {fd : FuncData} (F : Fun K "is_letter" "is_letter" sLetter f fd) (T : TX K mg) : FnOk P w K mg base CX0 1 f fd ["thing"] spLetter := by
  refine F.ok scLetter (fun vs H Q E h => ?_) (fun cdv A outer s H vs Q E hr h => ?_)
  · obtain ⟨c, rfl, _⟩ := h
    rfl
  · obtain ⟨c, rfl, hc, k⟩ := h
    obtain ⟨tk, hL⟩ := T.letters
    refine ⟨_, pss_one (ps_ret (pe_and (pe_callB call_isi (by rfl) T.isi (by decide +kernel) (pa_cons (pv 0) (pa_cons (pe_bltn (v := .ty "str") (by rfl) T.str (by decide +kernel) rfl) pa_nil)))
      (pe_and (pe_cmpR op_eq (pe_callB call_len_str (by rfl) T.len PySem.boot_len (pa_cons (pv 0) pa_nil)) pe_int (nomark _)) (pe_one (pe_cmpR op_in_sign (pv 0) (pe_glob (v := .str abc) (by rfl) hL ⟨_, rfl⟩) (by rfl)))))), ?_⟩
    refine ⟨_, rfl, lV c, .ty "str", .type "str", .type "str", true, rfl, .ty _, .base (.str _), kit_ty (by decide +kernel), true, rfl, iteT ?_⟩
    refine ⟨_, rfl, lt c, rfl, by show 1 ≤ sizeLine; decide, rfl, ?_⟩
    have e1 : decide (V.int ((lt c).length : Nat) = V.int 1) = true := decide_eq_true rfl
    refine ⟨_, rfl, ?_⟩
    rw [e1]
    refine iteT ⟨_, rfl, c, _, rfl, rfl, ?_⟩
    have e2 : decide (c ∈ abcL) = true := decide_eq_true (in_letters hc)
    show Q (.bl (decide (c ∈ abcL))) _
    rw [e2]
    exact k
theorem scRow : FnScope ["thing", "many", "letter", "row"] ["thing", "many"] (defScope sRow) := ⟨rfl, rfl, rfl, by decide +kernel, rfl, by decide +kernel, by decide +kernel⟩
theorem ok_row {f : Addr} {fd : FuncData} (F : Fun K "is_row" "is_row" sRow f fd) (T : TX K mg) (D1 : Def P w K mg base CX0 1 "is_letter" ["thing"] spLetter) (D2 : Def P w K mg base CX0 2 "is_within" ["thing", "least", "most"] spWithin) :
    FnOk P w K mg base CX0 3 f fd ["thing", "many"] spIsRow := by
  refine F.ok scRow (fun vs H Q E h => ?_) (fun cdv A outer s H vs Q E hr h => ?_)
  · obtain ⟨a, n, r, rfl, _⟩ := h
    rfl
  · obtain ⟨a, n, r, rfl, ha, hne, h26, hx, k⟩ := h
    have hu := hu_of hr
    refine ⟨_, pss_cons (ps_if (PW.pt (pw_or (pt_not (pt_val (pe_callB call_isi (by rfl) T.isi (by decide +kernel) (pa_cons (pv 0) (pa_cons (pe_bltn (v := .ty "dict") (by rfl) T.dict (by decide +kernel) rfl) pa_nil)))))
        (pw_or1 (pt_cmpR (op_eq_empty (Nat.lt_of_succ_lt hu)) (pv 0) pe_dnewK (nomark _))))) (pss_one (ps_ret pe_bl)) pss_nil)
      (pss_one (ps_ret (pe_callB (cr_all rfl) (by rfl) T.all (by decide +kernel) (pa_cons (pe_lock (pe_lc (own := [("letter", 2), ("row", 3)]) (g := gTup K 2 (gCons (gName 2) (gCons (gName 3) gNil))) (tt := tYes) rfl scRow.nd (pi_items (pv 0)) (blkOk_by (N := ["thing", "many", "letter", "row"]) (sc := defScope sRow) (by decide +kernel))
        (fun _ _ _ _ _ => pg_tup rfl (pgs_cons (pg_name (i := 2) scRow.nd rfl (Or.inl rfl)) (pgs_cons (pg_name (i := 3) scRow.nd rfl (Or.inl rfl)) pgs_nil))) (fun _ _ _ _ _ => pts_nil)
        (fun _ _ _ _ _ => pe_and (pe_callD D1 hr pass0 (pa_cons (pv 2) pa_nil)) (pe_one (pe_callD D2 hr pass0 (pa_cons (pv 3) (pa_cons pe_int (pa_cons (pe_op op_sub (pv 1) pe_int) pa_nil)))))))) pa_nil)))), ?_⟩
    refine ⟨_, rfl, .ref a, .ty "dict", .type "dict", .type "dict", true, rfl, .ty _, .base (.dK ha), kit_ty (by decide +kernel), true, rfl, ?_⟩
    refine iteF ⟨_, rfl, fun d hd => ⟨a, d, rowD r, rfl, rfl, by rw [upd_ne (ne_of_none ha hd)]; exact ha, upd_same, _, rfl, ?_⟩⟩
    have e0 : decide (rowD r = []) = false := decide_eq_false fun q => hne (List.map_eq_nil_iff.mp q)
    rw [e0]
    refine iteF ?_
    have ha' : upd H d (.dK []) a = some (.dK (rowD r)) := by rw [upd_ne (ne_of_none ha hd)]; exact ha
    refine ⟨a, _, ha', trivial, fun od => ⟨_, rfl, a, od, rowD r, rfl, upd_same, fun D hD => ?_⟩⟩
    refine lc_it walk_items (fun i H' => Same (upd (upd H d (.dK [])) a (.frz od (.dK (rowD r)))) H' ∧ H' D = some (.lst (List.replicate i (.bl true)))) ⟨same_upd hD, upd_same⟩ (fun i H' _ p => p.1 _ _ upd_same) ?_ ?_
    · rintro i x H1 H2 hi ⟨s1, hl⟩ ⟨t, y, z, rfl, nt, rfl, ey, ez⟩
      obtain ⟨⟨c, q⟩, ex, hm, eK⟩ := rowD_get hi
      have hi' : i < r.length := by rw [rowD_len] at hi; exact hi
      have ey' : Option.map (fun kv => kV kv.1) ((rowD r)[i]?) = some y := ey
      have ez' : Option.map Prod.snd ((rowD r)[i]?) = some z := ez
      rw [eK] at ey' ez'
      cases ey'
      cases ez'
      have hxi := hx _ hm
      refine ⟨t, _, rfl, SqT.of upd_same, rfl, _, _, rfl, _, _, rfl, rfl, rfl, ?_⟩
      refine ⟨_, rfl, c, rfl, hxi.1, true, rfl, iteT ?_⟩
      refine ⟨_, rfl, _, rfl, _, _, rfl, rfl, _, _, _, rfl, ?_⟩
      have e1 : (decide ((0 : Int) ≤ (q : Int)) && decide ((q : Int) ≤ n - 1)) = true := by
        rw [Bool.and_eq_true, decide_eq_true_eq, decide_eq_true_eq]
        omega
      have s2 := sameU s1 nt (o := .tup [kV (Sum.inr (lt c)), V.int (q : Int)])
      have hD2 : upd H1 t (.tup [kV (Sum.inr (lt c)), V.int (q : Int)]) D = some (.lst (List.replicate i (.bl true))) := by rw [upd_ne (ne_of_none hl nt)]; exact hl
      rw [e1]
      refine ⟨_, hD2, by rw [List.length_replicate]; exact Nat.lt_of_lt_of_le hi' (Nat.le_trans h26 (by decide)), sameP s2 hD, ?_⟩
      rw [upd_same, rep_snoc]
    · rintro H1 ⟨s1, hl⟩
      rw [rowD_len] at hl
      have s1 : Same (upd (upd H d (.dK [])) a (.frz od (.dK (rowD r)))) H1 := s1
      refine ⟨s1 _ _ upd_same, D, List.replicate r.length true, rfl, ?_, ?_⟩
      · refine SqL.of ?_
        have nDa : D ≠ a := fun q => by
          subst q
          rw [upd_same] at hD
          cases hD
        rw [upd_ne nDa, hl]
        simp
      · rw [all_rep_true]
        exact k _ (Same.trans (same_upd hd) (sameK ha' s1))
theorem scTable : FnScope ["thing", "row"] ["thing"] (defScope sTable) := ⟨rfl, rfl, rfl, by decide +kernel, rfl, by decide +kernel, by decide +kernel⟩
theorem ok_table {f : Addr} {fd : FuncData} (F : Fun K "is_table" "is_table" sTable f fd) (T : TX K mg) (D1 : Def P w K mg base CX0 1 "is_list" ["thing"] spIsList) (D2 : Def P w K mg base CX0 3 "is_row" ["thing", "many"] spIsRow) :
    FnOk P w K mg base CX0 4 f fd ["thing"] spIsTable := by
  refine F.ok scTable (fun vs H Q E h => ?_) (fun cdv A outer s H vs Q E hr h => ?_)
  · obtain ⟨l, U, rfl, _⟩ := h
    rfl
  · obtain ⟨l, U, rfl, hT, wf, h1000, k⟩ := h
    obtain ⟨tr, hR⟩ := T.rows
    refine ⟨_, pss_cons (ps_if (PW.pt (pw_or (pt_not (pt_val (pe_callD D1 hr pass0 (pa_cons (pv 0) pa_nil))))
        (pw_or1 (pt_not (pt_chain op_le op_le pe_int (pe_callB call_len_seq (by rfl) T.len PySem.boot_len (pa_cons (pv 0) pa_nil)) (pe_glob (v := .int 1000) (by rfl) hR ⟨_, rfl⟩)))))) (pss_one (ps_ret pe_bl)) pss_nil)
      (pss_one (ps_ret (pe_callB (cr_all rfl) (by rfl) T.all (by decide +kernel) (pa_cons (pe_lc (own := [("row", 1)]) (g := gName 1) (tt := tYes) rfl scTable.nd (pi_list (pv 0)) (blkOk_by (N := ["thing", "row"]) (sc := defScope sTable) (by decide +kernel))
        (fun _ _ _ _ _ => pg_name (i := 1) scTable.nd rfl (Or.inl rfl)) (fun _ _ _ _ _ => pts_nil)
        (fun _ _ _ _ _ => pe_callD D2 hr pass0 (pa_cons (pv 1) (pa_cons (pe_callB (r := rLenS K) call_len_seq (by rfl) T.len PySem.boot_len (pa_cons (pv 0) pa_nil)) pa_nil)))) pa_nil)))), ?_⟩
    obtain ⟨as, hl, has⟩ := id hT
    have hlen : as.length = U.length := Paired.length has
    refine ⟨_, rfl, l, _, rfl, hl, fun H1 s1 => ⟨true, rfl, ?_⟩⟩
    refine iteF ⟨_, rfl, l, _, rfl, .inl (SqL.of (s1 _ _ hl)), _, _, rfl, rfl, _, rfl, ?_⟩
    have p0 := wf.pos
    have e1 : decide ((1 : Int) ≤ (((as.map V.ref).length : Nat) : Int)) = true := decide_eq_true (by rw [List.length_map]; omega)
    rw [e1]
    refine iteT ⟨_, _, rfl, rfl, _, rfl, ?_⟩
    have e2 : decide ((((as.map V.ref).length : Nat) : Int) ≤ 1000) = true := decide_eq_true (by rw [List.length_map]; omega)
    rw [e2]
    refine iteF ?_
    refine ⟨_, rfl, l, rfl, ⟨_, SqL.of (s1 _ _ hl)⟩, fun D hD => ?_⟩
    refine lc_list (K := K) (a := l) (xs := as.map V.ref) (fun i H' => Same H1 H' ∧ H' D = some (.lst (List.replicate i (.bl true)))) ⟨same_upd hD, upd_same⟩ (fun i H' _ p => SqL.of (p.1 _ _ (s1 _ _ hl))) ?_ ?_
    · rintro i x H2 hi ⟨s2, hd⟩
      rw [List.getElem?_map, Option.map_eq_some_iff] at hi
      obtain ⟨a, ha, rfl⟩ := hi
      have hia : i < as.length := (List.getElem?_eq_some_iff.mp ha).1
      obtain ⟨r, hr, hra⟩ := paired_get has ha
      have hrow := wf.row r (List.mem_of_getElem? hr)
      refine ⟨rfl, _, rfl, _, rfl, l, _, rfl, .inl (SqL.of (s2 _ _ (s1 _ _ hl))), ?_⟩
      refine ⟨a, _, r, rfl, s2 _ _ (s1 _ _ hra), hrow.1, wf.row_len (List.mem_of_getElem? hr), fun x hx => ⟨(hrow.2.2 x hx).1, ?_⟩, fun H3 s3 => ?_⟩
      · have := (hrow.2.2 x hx).2
        rw [List.length_map]
        omega
      · refine ⟨_, s3 _ _ hd, by rw [List.length_replicate]; exact Nat.lt_of_lt_of_le hia (Nat.le_trans (by omega : as.length ≤ 1000) (by decide)), sameP (s2.trans s3) hD, ?_⟩
        rw [upd_same, rep_snoc]
    · rintro H2 ⟨s2, hd⟩
      refine ⟨D, List.replicate as.length true, rfl, SqL.of ?_, ?_⟩
      · rw [hd]
        simp
      · rw [all_rep_true]
        exact k _ (s1.trans s2)
end
end KW
/-! KwD2: the class Kind: __init__, table, __len__. -/
namespace KW
open PySem PySem.Spec PyProof.Rows L2
abbrev sKind : Stmt := top 21
abbrev sInit : Stmt := inClass sKind 0
abbrev sTab : Stmt := inClass sKind 1
abbrev sEq : Stmt := inClass sKind 3
abbrev sLen : Stmt := inClass sKind 4
/-- what a comprehension asks -/
abbrev LcR (J : It) (g : TG) (tt : TT) (te : TE) (vs : List Nat) (σ : L2.St) (H1 : Hp) (D : Addr) (Qd : Hp → Prop) : Prop :=
  ∃ W : Nat → Nat → Hp → Prop, (∃ m, W 0 m (upd H1 D (.lst []))) ∧ ∀ i m H, W i m H →
    (J.stop i H ∧ Qd H) ∨ (J.go i H ∧ ∃ Nx : Hp → Prop, (∀ H', Nx H' → ∃ m', m' < m ∧ W (i + 1) m' H') ∧ ∀ x H', J.yld i H x H' → g x (wipe σ vs) H' fun σ2 H2 => wipe σ2 vs = wipe σ vs ∧ tt σ2 H2 fun b H3 =>
      if b = true then te σ2 H3 fun y H4 => ∃ acc, H4 D = some (.lst acc) ∧ acc.length < sizeLine ∧ Nx (upd H4 D (.lst (acc ++ [y]))) else Nx H3)
abbrev rCopy : List V → Hp → VK → Prop := fun xs H Q => ∃ (a : Addr) (kvs : List (Key × V)), xs = [.ref a] ∧ Rd H a (.dK kvs) ∧ ∀ p, H p = none → Q (.ref p) (upd H p (.dK kvs))
theorem set_get {σ : L2.St} {i : Nat} {v : Option V} (h : i < σ.length) : (σ.set i v)[i]? = some v := by
  rw [List.getElem?_set_self h]
theorem wipe1 (σ : L2.St) (i : Nat) (v : Option V) : wipe ((wipe σ [i]).set i v) [i] = wipe σ [i] := by
  show (((σ.set i none).set i v).set i none) = σ.set i none
  rw [List.set_set, List.set_set]
/-- [dict(row) for row in table] -/
theorem lc_copy {K : PySem.W.Frag} {l D : Addr} {U : Tab} {H1 : Hp} {Qd : Hp → Prop} {σ : L2.St} {i : Nat} (hi : i < σ.length) (hT : TabAt H1 l U) (h1000 : U.length ≤ 1000) (hD : H1 D = none) (hd : ∀ H', Same H1 H' → TabAt H' D U → Qd H') :
    LcR (Itl K l) (gName i) tYes (tCB rCopy (tCons (tVar i) tNil)) [i] σ H1 D Qd := by
  obtain ⟨as, hl, has⟩ := hT
  have hlen := Paired.length has
  refine lc_list (K := K) (a := l) (xs := as.map V.ref) (fun j H' => Same H1 H' ∧ ∃ bs : List Addr, H' D = some (.lst (bs.map V.ref)) ∧ Paired (RowAt H') bs (U.take j)) ⟨same_upd hD, [], upd_same, .nil⟩ (fun j H' _ p => SqL.of (p.1 _ _ hl)) ?_ ?_
  · rintro j x H2 hx ⟨s2, bs, hb, hbs⟩
    rw [List.getElem?_map, Option.map_eq_some_iff] at hx
    obtain ⟨a, ha, rfl⟩ := hx
    have hja : j < as.length := (List.getElem?_eq_some_iff.mp ha).1
    obtain ⟨r, hr, hra⟩ := paired_get has ha
    refine ⟨wipe1 _ _ _, _, set_get (by rw [wipe_length]; exact hi), a, rowD r, rfl, .inl (s2 _ _ hra), fun p hp => ?_⟩
    have hDp : D ≠ p := ne_of_none hb hp
    have hbl := Paired.length hbs
    rw [List.length_take] at hbl
    refine ⟨_, by rw [upd_ne hDp]; exact hb, by rw [List.length_map]; exact Nat.lt_of_le_of_lt (by omega : bs.length ≤ 1000) (by decide), sameP (sameU s2 hp) hD, bs ++ [p], by rw [upd_same, List.map_append]; rfl, ?_⟩
    rw [take_snoc hr]
    refine paired_snoc ?_ (paired_mono (fun a r' q => ?_) hbs)
    · show upd (upd H2 p _) D _ p = _
      rw [upd_ne hDp.symm, upd_same]
    · show upd (upd H2 p _) D _ a = _
      have q' : H2 a = some (.dK (rowD r')) := q
      rw [upd_ne (ne_of q' hb (fun z => nomatch z)), upd_ne (ne_of_none q' hp)]
      exact q'
  · rintro H2 ⟨s2, bs, hb, hbs⟩
    refine hd H2 s2 ⟨bs, hb, ?_⟩
    rwa [List.length_map, hlen, List.take_length] at hbs
def spInit (C : Addr) : Sp := fun vs H Q _ => ∃ (x l dx : Addr) (U : Tab), vs = [.ref x, .ref l] ∧ H x = some (.ins C dx []) ∧ TabAt H l U ∧ WF U ∧ U.length ≤ 1000 ∧
  ∀ H', (∀ b o, b ≠ x → H b = some o → H' b = some o) → KAt C H' x U → Q .non H'
def spTab (C : Addr) : Sp := fun vs H Q _ => ∃ (x : Addr) (U : Tab), vs = [.ref x] ∧ KAt C H x U ∧ ∀ l H', Same H H' → TabAt H' l U → Q (.ref l) H'
def spLen (C : Addr) : Sp := fun vs H Q _ => ∃ (x : Addr) (U : Tab), vs = [.ref x] ∧ KAt C H x U ∧ Q (.int (U.length : Nat)) H
section
variable {P : Program} {w : World} {K : PySem.W.Frag} {mg : Str → Option Value} {base : Heap} {C : Addr}
theorem lk_rows (v : V) : ([(("rows" : Str), v)] : List (Str × V)).lookup ("rows" : Str) = some v := by simp [List.lookup]
theorem scInit : FnScope ["self", "table", "row"] ["self", "table"] (defScope sInit) := ⟨rfl, rfl, rfl, by decide +kernel, rfl, by decide +kernel, by decide +kernel⟩
theorem ok_init {f : Addr} {fd : FuncData} (F : Fun K "__init__" "Kind.__init__" sInit f fd) (T : TX K mg) (TC : TK K mg C) (D : Def P w K mg base CX0 4 "is_table" ["thing"] spIsTable) : FnOk P w K mg base CX0 5 f fd ["self", "table"] (spInit C) := by
  refine F.ok scInit (fun vs H Q E h => ?_) (fun cdv A outer s H vs Q E hr h => ?_)
  · obtain ⟨x, l, dx, U, rfl, _⟩ := h
    rfl
  · obtain ⟨x, l, dx, U, rfl, hx, hT, wf, h1000, k⟩ := h
    refine ⟨_, pss_cons (ps_if (pt_not (pt_val (pe_callD D hr pass0 (pa_cons (pv 1) pa_nil)))) (pss_one ps_never) pss_nil)
      (pss_one (ps_fld (pv 0) (pe_lc (own := [("row", 2)]) (g := gName 2) (tt := tYes) rfl scInit.nd (pi_list (pv 1)) (blkOk_by (N := ["self", "table", "row"]) (sc := defScope sInit) (by decide +kernel))
        (fun _ _ _ _ _ => pg_name (i := 2) scInit.nd rfl (Or.inl rfl)) (fun _ _ _ _ _ => pts_nil)
        (fun _ _ _ _ _ => pe_callTy (r := rCopy) call_dictD (by rfl) T.dict (by decide +kernel) (pa_cons (pv 2) pa_nil))) rfl)), ?_⟩
    refine ⟨_, rfl, l, U, rfl, hT, wf, h1000, fun H1 s1 => ⟨true, rfl, iteF ?_⟩⟩
    obtain ⟨as, hl, _⟩ := id hT
    refine ⟨_, rfl, l, rfl, ⟨_, SqL.of (s1 _ _ hl)⟩, fun D hD => lc_copy (i := 2) (by show 2 < 3; decide) (hT.same s1) h1000 hD fun H2 s2 hD2 => ?_⟩
    have hx2 := s2 _ _ (s1 _ _ hx)
    refine ⟨_, rfl, x, C, dx, [], rfl, hx2, TC.cls, TC.nR, (by show 0 < 1000; decide), ?_⟩
    have s12 : Same H H2 := s1.trans s2
    have key : ∀ b o, b ≠ x → H2 b = some o → upd H2 x (.ins C dx (putF "rows" (.ref D) [])) b = some o := fun b o hb e => by rw [upd_ne hb]; exact e
    refine k _ (fun b o hb e => key b o hb (s12 _ _ e)) ⟨⟨dx, D, upd_same, hD2.keep (fun as q => key _ _ (ne_of q hx2 (fun z => nomatch z)) q) (fun a kvs q => key _ _ (ne_of q hx2 (fun z => nomatch z)) q)⟩, wf, h1000⟩
/-- Kind(l), as its caller sees it -/
theorem kind_make {x dx l : Addr} {U : Tab} {H1 : Hp} {Q : Hp → Prop} {E : XK} (hT : TabAt H1 l U) (wf : WF U) (h1000 : U.length ≤ 1000) (hx : H1 x = none) (hd : H1 dx = none) (ne : dx ≠ x) (k : ∀ H2, Same H1 H2 → KAt C H2 x U → Q H2) :
    spInit C [.ref x, .ref l] (upd (upd H1 dx (.own x)) x (.ins C dx [])) (fun v H2 => v = .non ∧ Q H2) E := by
  have s0 : Same H1 (upd (upd H1 dx (.own x)) x (.ins C dx [])) := sameU (same_upd hd) (by rw [upd_ne ne.symm]; exact hx)
  refine ⟨x, l, dx, U, rfl, upd_same, hT.same s0, wf, h1000, fun H2 s2 hk => ⟨rfl, k H2 (fun b o e => s2 b o (ne_of_none e hx) (s0 b o e)) hk⟩⟩
theorem scTab : FnScope ["self", "row"] ["self"] (defScope sTab) := ⟨rfl, rfl, rfl, by decide +kernel, rfl, by decide +kernel, by decide +kernel⟩
theorem ok_tab {f : Addr} {fd : FuncData} (F : Fun K "table" "Kind.table" sTab f fd) (T : TX K mg) (TC : TK K mg C) : FnOk P w K mg base CX0 1 f fd ["self"] (spTab C) := by
  refine F.ok scTab (fun vs H Q E h => ?_) (fun cdv A outer s H vs Q E hr h => ?_)
  · obtain ⟨x, U, rfl, _⟩ := h
    rfl
  · obtain ⟨x, U, rfl, ⟨⟨dx, l, hx, hT⟩, wf, h1000⟩, k⟩ := h
    refine ⟨_, pss_one (ps_ret (pe_lc (own := [("row", 1)]) (g := gName 1) (tt := tYes) rfl scTab.nd (pi_list (pe_fld (pv 0) rfl)) (blkOk_by (N := ["self", "row"]) (sc := defScope sTab) (by decide +kernel))
        (fun _ _ _ _ _ => pg_name (i := 1) scTab.nd rfl (Or.inl rfl)) (fun _ _ _ _ _ => pts_nil)
        (fun _ _ _ _ _ => pe_callTy (r := rCopy) call_dictD (by rfl) T.dict (by decide +kernel) (pa_cons (pv 1) pa_nil)))), ?_⟩
    obtain ⟨as, hl, _⟩ := id hT
    exact ⟨_, rfl, x, C, dx, _, _, rfl, hx, TC.cls, TC.nR, lk_rows _, l, rfl, ⟨_, SqL.of hl⟩, fun D hD => lc_copy (i := 1) (by show 1 < 2; decide) hT h1000 hD fun H2 s2 hD2 => k D H2 s2 hD2⟩
theorem scLen : FnScope ["self"] ["self"] (defScope sLen) := ⟨rfl, rfl, rfl, by decide +kernel, rfl, by decide +kernel, by decide +kernel⟩
theorem ok_len {f : Addr} {fd : FuncData} (F : Fun K "__len__" "Kind.__len__" sLen f fd) (T : TX K mg) (TC : TK K mg C) : FnOk P w K mg base CX0 1 f fd ["self"] (spLen C) := by
  refine F.ok scLen (fun vs H Q E h => ?_) (fun cdv A outer s H vs Q E hr h => ?_)
  · obtain ⟨x, U, rfl, _⟩ := h
    rfl
  · obtain ⟨x, U, rfl, ⟨⟨dx, l, hx, hT⟩, wf, h1000⟩, k⟩ := h
    obtain ⟨as, hl, has⟩ := id hT
    refine ⟨_, pss_one (ps_ret (pe_callB call_len_seq (by rfl) T.len PySem.boot_len (pa_cons (pe_fld (pv 0) rfl) pa_nil))), ?_⟩
    refine ⟨_, rfl, x, C, dx, _, _, rfl, hx, TC.cls, TC.nR, lk_rows _, l, _, rfl, .inl (SqL.of hl), ?_⟩
    have e : (as.map V.ref).length = U.length := by rw [List.length_map]; exact Paired.length has
    show Q (.int ((as.map V.ref).length : Nat)) H
    rw [e]
    exact k
end
end KW
/-! KwD3: weather_to. -/
namespace KW
open PySem PySem.Spec PyProof.Rows L2
abbrev sWeather : Stmt := top 13
theorem sqT_same {K : PySem.W.Frag} {H H' : Hp} {a : Addr} {xs : List V} (s : Same H H') (h : SqT K H a xs) : SqT K H' a xs := by
  rcases h with (h | ⟨o, h⟩) | h
  · exact .inl (.inl (s _ _ h))
  · exact .inl (.inr ⟨o, s _ _ h⟩)
  · exact .inr h
/-- a change of what may be changed leaves tuples alone -/
theorem sqT_put {K : PySem.W.Frag} {H : Hp} {a d : Addr} {xs : List V} {o o' : HO} (hd : H d = some o) (mu : Mut (some o)) (h : SqT K H a xs) : SqT K (upd H d o') a xs := by
  rcases h with (h | ⟨u, h⟩) | h
  · have ne : a ≠ d := fun q => by
      rw [q, hd] at h
      cases h
      exact mu
    exact .inl (.inl (by rw [upd_ne ne]; exact h))
  · have ne : a ≠ d := fun q => by
      rw [q, hd] at h
      cases h
      exact mu
    exact .inl (.inr ⟨u, by rw [upd_ne ne]; exact h⟩)
  · exact .inr h
theorem ND.same {P : Program} {w : World} {K : PySem.W.Frag} {H H' : Hp} {d : Addr} {es : List NE} (h : ND P w K H d es) (s : Same H H') : ND P w K H' d es :=
  ⟨s _ _ h.at_, fun e he => sqT_same s (h.keys e he)⟩
/-- how a pair was come to -/
def TVal (K : PySem.W.Frag) (H : Hp) (ents : List (PK × List Nat)) (v : V) (u : List Nat) : Prop :=
  (v = .non ∧ u = []) ∨ ∃ (t tp : Addr) (y : PK × List Nat) (c : Nat), v = .ref t ∧ SqT K H t [.ref tp, lV c] ∧ y ∈ ents ∧ PairAt K H tp y.1 ∧ u = y.2 ++ [c]
def Trail (K : PySem.W.Frag) (H : Hp) (es : List NE) (ents : List (PK × List Nat)) : Prop := Paired (fun e x => e.1 = x.1 ∧ TVal K H ents e.2.2 x.2) es ents
theorem TVal.same {K : PySem.W.Frag} {H H' : Hp} {ents ents' : List (PK × List Nat)} {v : V} {u : List Nat} (k1 : ∀ a xs, SqT K H a xs → SqT K H' a xs) (k2 : ∀ y ∈ ents, y ∈ ents') (h : TVal K H ents v u) : TVal K H' ents' v u := by
  rcases h with h | ⟨t, tp, y, c, h1, h2, h3, h4, h5⟩
  · exact .inl h
  · exact .inr ⟨t, tp, y, c, h1, k1 _ _ h2, k2 y h3, k1 _ _ h4, h5⟩
theorem Trail.same {K : PySem.W.Frag} {H H' : Hp} {es : List NE} {ents : List (PK × List Nat)} (s : Same H H') (h : Trail K H es ents) : Trail K H' es ents :=
  paired_mono (fun e x q => ⟨q.1, q.2.same (fun _ _ => sqT_same s) fun _ h => h⟩) h
theorem Trail.keys {K : PySem.W.Frag} {H : Hp} {es : List NE} {ents : List (PK × List Nat)} (h : Trail K H es ents) : es.map (·.1) = ents.map (·.1) := by
  unfold Trail at h
  generalize hE : ents = E at h
  have : ∀ {es : List NE} {E : List (PK × List Nat)}, Paired (fun e x => e.1 = x.1 ∧ TVal K H ents e.2.2 x.2) es E → es.map (·.1) = E.map (·.1) := by
    intro es E q
    induction q with
    | nil => rfl
    | cons r t ih => rw [List.map_cons, List.map_cons, ih, r.1]
  rw [← hE] at h
  rw [← hE]
  exact this h
theorem Trail.val {K : PySem.W.Frag} {H : Hp} {es : List NE} {ents : List (PK × List Nat)} (h : Trail K H es ents) (hn : (es.map (·.1)).Nodup) {x : PK × List Nat} (hx : x ∈ ents) : ∃ v, valN es x.1 = some v ∧ TVal K H ents v x.2 := by
  obtain ⟨i, hi⟩ := List.getElem?_of_mem hx
  obtain ⟨e, he, q⟩ := paired_get' h hi
  have := valN_mem hn (List.mem_of_getElem? he)
  rw [q.1] at this
  exact ⟨_, this, q.2⟩
theorem join_singles : ∀ l : List Nat, TL.joinL [] (l.map fun c => [c]) = l
  | [] => rfl
  | [c] => rfl
  | c :: d :: l => by
    have ih := join_singles (d :: l)
    show [c] ++ ([] ++ TL.joinL [] ((d :: l).map fun c => [c])) = _
    rw [ih]
    rfl
theorem sum_ones {A : Type} : ∀ l : List A, (l.map fun _ => 1).sum = l.length
  | [] => rfl
  | a :: l => by
    rw [List.map_cons, List.sum_cons, sum_ones l, List.length_cons]
    omega
theorem join_lt (l : List Nat) : Txt.join ("" : Str) (l.map lt) = wS l := by
  have := SX.join_S [] (l.map fun c => [c])
  rw [join_singles, List.map_map] at this
  exact this
def spWeather (P : Program) (w : World) (K : PySem.W.Frag) : Sp := fun vs H Q _ => ∃ (d b : Addr) (es : List NE) (ents : List (PK × List Nat)) (x : PK × List Nat), vs = [.ref d, .ref b] ∧ ND P w K H d es ∧ Trail K H es ents ∧ (ents.map (·.1)).Nodup ∧ x ∈ ents ∧ PairAt K H b x.1 ∧
  x.2.length ≤ 1000000 ∧ ∀ H', Same H H' → Q (.str (wS x.2)) H'
section
variable {P : Program} {w : World} {K : PySem.W.Frag} {mg : Str → Option Value} {base : Heap}
theorem scWeather : FnScope ["before", "here", "letters", "letter"] ["before", "here"] (defScope sWeather) := ⟨rfl, rfl, rfl, by decide +kernel, rfl, by decide +kernel, by decide +kernel⟩
theorem ok_weather {f : Addr} {fd : FuncData} (F : Fun K "weather_to" "weather_to" sWeather f fd) (T : TX K mg) : FnOk P w K mg base CX0 1 f fd ["before", "here"] (spWeather P w K) := by
  refine F.ok scWeather (fun vs H Q E h => ?_) (fun cdv A outer s H vs Q E hr h => ?_)
  · obtain ⟨d, b, es, ents, x, rfl, _⟩ := h
    rfl
  · obtain ⟨d, b, es, ents, x, rfl, hd, tr, hn, hx, hb, hlen, k⟩ := h
    have hu := hu_of hr
    refine ⟨_, pss_cons (ps_set (i := 2) scWeather.nd rfl (Or.inl rfl) (pe_lst pa_nil))
      (pss_cons (ps_while PassesOwn.never (pt_cmpR op_notN (pe_nget hu (pv 0) (pv 1) (fun _ _ => rfl)) pe_non (nomark _))
        (pss_cons (ps_asg (pe_nget hu (pv 0) (pv 1) (fun _ _ => rfl)) (pg_tup rfl (pgs_cons (pg_name (i := 1) scWeather.nd rfl (Or.inl rfl)) (pgs_cons (pg_name (i := 3) scWeather.nd rfl (Or.inl rfl)) pgs_nil))))
          (pss_one (ps_expr (pe_bm PySem.F.plainAttrs_list PySem.F.slot_list_append PySem.F.type_list_append mt_append (pv 2) (pa_cons (pv 3) pa_nil))))))
      (pss_one (ps_ret (pe_joinRev rfl pe_str (by rfl) T.rev (pa_cons (pv 2) pa_nil))))), ?_⟩
    refine ⟨Nat.zero_le _, fun l hl => ?_⟩
    refine ⟨fun m σ H' => ∃ (y : PK × List Nat) (b' : Addr) (rest : List Nat) (v3 : Option V), m = y.2.length ∧ σ = [some (.ref d), some (.ref b'), some (.ref l), v3] ∧ Same H H' ∧ y ∈ ents ∧ PairAt K H b' y.1 ∧ x.2 = y.2 ++ rest ∧ H' l = some (.lst (rest.reverse.map lV)),
      ⟨_, x, b, [], none, rfl, rfl, same_upd hl, hx, hb, by simp, upd_same⟩, ?_⟩
    rintro m σ H' ⟨y, b', rest, v3, rfl, rfl, s1, hy, hb', ex, hacc⟩
    obtain ⟨v, hv, tv⟩ := tr.val (by rw [tr.keys]; exact hn) hy
    refine ⟨_, rfl, _, rfl, d, es, b', y.1, v, rfl, hd.same s1, rfl, sqT_same s1 hb', hv, rfl, _, rfl, ?_⟩
    rcases tv with ⟨rfl, e⟩ | ⟨t, tp, z, c, rfl, ht, hz, htp, ez⟩
    · have e1 : decide (V.non = V.non) = true := decide_eq_true rfl
      rw [e1]
      refine iteF ?_
      rw [e, List.nil_append] at ex
      rw [ex] at hlen k
      refine ⟨⟨_, rfl⟩, _, rfl, _, l, rest.reverse.map lt, rfl, rfl, SqL.of (by rw [List.map_map]; exact hacc), ?_, ?_⟩
      · have e2 : ((rest.reverse.map lt).map (·.length)).sum = rest.length := by
          rw [List.map_map]
          have : ((fun x : Str => x.length) ∘ lt) = fun _ => 1 := rfl
          rw [this]
          rw [sum_ones, List.length_reverse]
        rw [e2]
        show rest.length + _ * 0 ≤ _
        omega
      · rw [← List.map_reverse, List.reverse_reverse, join_lt]
        exact k _ s1
    · have e1 : decide (V.ref t = V.non) = false := decide_eq_false (fun q => nomatch q)
      rw [e1]
      refine iteT ⟨fun σ' H' => ∃ m', m' < y.2.length ∧ ∃ (y : PK × List Nat) (b' : Addr) (rest : List Nat) (v3 : Option V), m' = y.2.length ∧ σ' = [some (.ref d), some (.ref b'), some (.ref l), v3] ∧ Same H H' ∧ y ∈ ents ∧ PairAt K H b' y.1 ∧ x.2 = y.2 ++ rest ∧ H' l = some (.lst (rest.reverse.map lV)), fun _ _ h => h, ?_⟩
      refine ⟨_, rfl, _, rfl, d, es, b', y.1, _, rfl, hd.same s1, rfl, sqT_same s1 hb', hv, t, _, rfl, sqT_same s1 ht, rfl, _, _, rfl, _, _, rfl, rfl, ?_⟩
      have hr1 : rest.length ≤ 1000000 := by rw [ex, List.length_append] at hlen; omega
      refine ⟨_, rfl, .inl ⟨rfl, _, SqL.of hacc⟩, _, rfl, l, _, _, rfl, rfl, hacc, ?_, ?_⟩
      · rw [List.length_map, List.length_reverse]
        exact Nat.lt_of_le_of_lt hr1 (by decide)
      · refine ⟨_, ?_, z, tp, c :: rest, _, rfl, rfl, sameP s1 hl, hz, htp, ?_, ?_⟩
        · rw [ez, List.length_append, List.length_singleton]
          omega
        · rw [ex, ez, List.append_assoc]
          rfl
        · rw [upd_same, List.reverse_cons, List.map_append]
          rfl
end
end KW
/-! KwD4: first_beyond. -/
namespace KW
open PySem PySem.Spec PyProof.Rows L2
abbrev sFirst : Stmt := top 14
def resV : Option (List Nat) → V
  | none => .non
  | some u => .str (wS u)
theorem wS_snoc (u : List Nat) (c : Nat) : wS u ++ lt c = wS (u ++ [c]) := by
  show (⟨u.toArray ++ #[c]⟩ : Str) = ⟨(u ++ [c]).toArray⟩
  simp
/-- sorted letters -/
theorem rising_lt : ∀ {cs : List Nat} {p : Nat}, risingS (lt p) (cs.map lt) = true → (p :: cs).Pairwise (· ≤ ·)
  | [], p, _ => by simp
  | c :: cs, p, h => by
    have h' : (!ltCps [c] [p] && risingS (lt c) (cs.map lt)) = true := h
    rw [Bool.and_eq_true] at h'
    obtain ⟨h1, h2⟩ := h'
    have ih := rising_lt h2
    have hpc : p ≤ c := by
      have e : ltCps [c] [p] = (decide (c < p) || (c == p && false)) := rfl
      rw [e] at h1
      simpa using h1
    rw [List.pairwise_cons] at ih ⊢
    refine ⟨fun x hx => ?_, List.pairwise_cons.mpr ih⟩
    rcases List.mem_cons.mp hx with e | hx
    · rw [e]; exact hpc
    · exact Nat.le_trans hpc (ih.1 x hx)
theorem sorted_lt {cs : List Nat} (h : sortedS (cs.map lt) = true) : cs.Pairwise (· ≤ ·) := by
  cases cs with
  | nil => simp
  | cons c cs => exact rising_lt h
theorem perm_lt {ys : List Str} {cs : List Nat} (h : ys.Perm (cs.map lt)) : ∃ ds : List Nat, ys = ds.map lt ∧ ds.Perm cs := by
  refine ⟨ys.map fun z => z.cps.getD 0 0, ?_, ?_⟩
  · rw [List.map_map]
    refine (List.map_id ys).symm.trans (List.map_congr_left fun z hz => ?_)
    obtain ⟨c, _, e⟩ := List.mem_map.mp (h.mem_iff.mp hz)
    subst e
    rfl
  · have := h.map fun z : Str => z.cps.getD 0 0
    rw [List.map_map] at this
    have e : ((fun z : Str => z.cps.getD 0 0) ∘ lt) = id := rfl
    rw [e, List.map_id] at this
    exact this
theorem rowD_keys (r : Row) : (rowD r).map (·.1) = ((r.map (·.1)).map lt).map Sum.inr := by
  unfold rowD
  rw [List.map_map, List.map_map, List.map_map]
  rfl
/-- the search's heap -/
structure FB (P : Program) (w : World) (K : PySem.W.Frag) (H H' : Hp) (d wl : Addr) (ents : List (PK × List Nat)) (es : List NE) (ws : List Addr) : Prop where
  same : Same H H'
  nd : ND P w K H' d es
  tr : Trail K H' es ents
  wt : H' wl = some (.lst (ws.map V.ref))
  ww : Paired (fun a x => PairAt K H' a x.1) ws ents
  ln : ∀ (i : Nat) (x : PK × List Nat), ents[i]? = some x → x.2.length ≤ i
section
variable {P : Program} {w : World} {K : PySem.W.Frag} {H H' H2 : Hp} {d wl : Addr} {ents : List (PK × List Nat)} {es : List NE} {ws : List Addr}
theorem FB.up (h : FB P w K H H' d wl ents es ws) (s : Same H' H2) : FB P w K H H2 d wl ents es ws :=
  ⟨h.same.trans s, h.nd.same s, h.tr.same s, s _ _ h.wt, paired_mono (fun _ _ q => sqT_same s q) h.ww, h.ln⟩
theorem FB.len (h : FB P w K H H' d wl ents es ws) : ws.length = ents.length ∧ es.length = ents.length := ⟨Paired.length h.ww, Paired.length h.tr⟩
theorem FB.push (h : FB P w K H H' d wl ents es ws) (nd : H d = none) (nw : H wl = none) {at_ : Nat} {x : PK × List Nat} (hx : ents[at_]? = some x) {q : PK} {c : Nat} {pb t tp : Addr} (hp : PairAt K H' pb q) (ht : SqT K H' t [.ref tp, lV c]) (htp : PairAt K H' tp x.1) (hq : q ∉ ents.map (·.1)) :
    FB P w K H (upd (upd H' d (NO P w d (putN es q pb (.ref t)))) wl (.lst (ws.map V.ref ++ [.ref pb]))) d wl (ents ++ [(q, x.2 ++ [c])]) (es ++ [(q, pb, .ref t)]) (ws ++ [pb]) := by
  have hdw : d ≠ wl := ne_of h.nd.at_ h.wt (fun z => nomatch z)
  have ep : putN es q pb (.ref t) = es ++ [(q, pb, .ref t)] := putN_new (by rw [h.tr.keys]; exact hq)
  have hw2 : upd H' d (NO P w d (putN es q pb (.ref t))) wl = some (.lst (ws.map V.ref)) := by rw [upd_ne hdw.symm]; exact h.wt
  have kt : ∀ a xs, SqT K H' a xs → SqT K (upd (upd H' d (NO P w d (putN es q pb (.ref t)))) wl (.lst (ws.map V.ref ++ [.ref pb]))) a xs := fun a xs q => sqT_put hw2 trivial (sqT_put h.nd.at_ trivial q)
  have hxm := List.mem_of_getElem? hx
  refine ⟨sameP (sameP h.same nd) nw, ⟨?_, fun e he => ?_⟩, ?_, ?_, ?_, fun i y hy => ?_⟩
  · rw [upd_ne hdw, upd_same, ep]
  · rcases List.mem_append.mp he with he | he
    · exact kt _ _ (h.nd.keys e he)
    · have e' : e = (q, pb, .ref t) := by simpa using he
      subst e'
      exact kt _ _ hp
  · refine paired_snoc ⟨rfl, .inr ⟨t, tp, x, c, rfl, kt _ _ ht, List.mem_append_left _ hxm, kt _ _ htp, rfl⟩⟩ (paired_mono (fun e y r => ⟨r.1, r.2.same kt fun _ m => List.mem_append_left _ m⟩) h.tr)
  · rw [upd_same, List.map_append]
    rfl
  · exact paired_snoc (R := fun a (y : PK × List Nat) => PairAt K _ a y.1) (kt _ _ hp) (paired_mono (fun a (y : PK × List Nat) r => kt a (pkV y.1) r) h.ww)
  · by_cases hi : i < ents.length
    · rw [List.getElem?_append_left hi] at hy
      exact h.ln i y hy
    · have h1 : i < (ents ++ [(q, x.2 ++ [c])]).length := (List.getElem?_eq_some_iff.mp hy).1
      rw [List.length_append, List.length_singleton] at h1
      have h2 : i = ents.length := by omega
      subst h2
      rw [List.getElem?_append_right (Nat.le_refl _)] at hy
      have e : (q, x.2 ++ [c]) = y := by simpa using hy
      subst e
      have h3 := h.ln at_ x hx
      have h4 := (List.getElem?_eq_some_iff.mp hx).1
      show (x.2 ++ [c]).length ≤ _
      rw [List.length_append, List.length_singleton]
      omega
end
theorem BI.many {T U : Tab} {ents : List (PK × List Nat)} {at_ : Nat} {done : List Nat} (hT : WF T) (hU : WF U) (lT : T.length ≤ 1000) (lU : U.length ≤ 1000) (I : BI (dB T U) (letsB T) pk0 ents at_ done) : ents.length ≤ 1000000 := by
  have := lenB hT hU (P := ents.map (·.1)) I.nodup fun p hp => by
    obtain ⟨x, hx, e⟩ := List.mem_map.mp hp
    subst e
    exact ⟨x.2, I.runs x hx⟩
  rw [List.length_map] at this
  exact Nat.le_trans this (Nat.mul_le_mul lT lU)
theorem BI.shape {T U : Tab} {ents : List (PK × List Nat)} {at_ : Nat} {done : List Nat} (hT : WF T) (hU : WF U) (I : BI (dB T U) (letsB T) pk0 ents at_ done) {x : PK × List Nat} (hx : x ∈ ents) : ∃ i j, x.1 = (some i, some j) ∧ i < T.length ∧ j < U.length :=
  reachB_shape hT hU ⟨x.2, I.runs x hx⟩
/-- behind each turn of the search -/
def FInv (P : Program) (w : World) (K : PySem.W.Frag) (H : Hp) (l m d wl : Addr) (T U : Tab) (at_ : Nat) (σ : L2.St) (H' : Hp) : Prop :=
  ∃ (ents : List (PK × List Nat)) (es : List NE) (ws : List Addr) (v5 v6 v7 v8 : Option V), at_ ≤ ents.length ∧ σ = [some (.ref l), some (.ref m), some (.ref d), some (.ref wl), some (.int (at_ : Nat)), v5, v6, v7, v8] ∧ FB P w K H H' d wl ents es ws ∧ BI (dB T U) (letsB T) pk0 ents at_ []
theorem letsB_row {T : Tab} {i : Nat} {r : Row} (h : T[i]? = some r) (y : Option Nat) : letsB T (some i, y) = r.map (·.1) := by
  have e : letsB T (some i, y) = match (T[i]? : Option Row) with
      | some (r : Row) => r.map (fun x : Nat × Nat => x.1)
      | none => [] := rfl
  rw [e, h]
theorem stepT_row {T : Tab} {i : Nat} {r : Row} (h : T[i]? = some r) (c : Nat) : stepT T i c = r.lookup c := by
  unfold stepT
  rw [h]
  rfl
def spFirst : Sp := fun vs H Q _ => ∃ (l m : Addr) (T U : Tab), vs = [.ref l, .ref m] ∧ TabAt H l T ∧ TabAt H m U ∧ WF T ∧ WF U ∧ T.length ≤ 1000 ∧ U.length ≤ 1000 ∧ ∀ r H', Same H H' → Beyond T U r → Q (resV r) H'
section
variable {P : Program} {w : World} {K : PySem.W.Frag} {mg : Str → Option Value} {base : Heap}
theorem scFirst : FnScope ["table", "other", "before", "waiting", "at", "one", "two", "letter", "pair"] ["table", "other"] (defScope sFirst) := ⟨rfl, rfl, rfl, by decide +kernel, rfl, by decide +kernel, by decide +kernel⟩
theorem ok_first {f : Addr} {fd : FuncData} (F : Fun K "first_beyond" "first_beyond" sFirst f fd) (TT : TX K mg) (D : Def P w K mg base CX0 1 "weather_to" ["before", "here"] (spWeather P w K)) : FnOk P w K mg base CX0 2 f fd ["table", "other"] spFirst := by
  refine F.ok scFirst (fun vs H Q E h => ?_) (fun cdv A outer s H vs Q E hr h => ?_)
  · obtain ⟨l, m, T, U, rfl, _⟩ := h
    rfl
  · obtain ⟨l, m, T, U, rfl, hT, hU, wfT, wfU, lT, lU, k⟩ := h
    have hu := hu_of hr
    refine ⟨_, pss_cons (ps_set (i := 2) scFirst.nd rfl (Or.inl rfl) (pe_ndisp hu (pe_tup (pa_cons pe_int (pa_cons pe_int pa_nil))) pe_non))
      (pss_cons (ps_set (i := 3) scFirst.nd rfl (Or.inl rfl) (pe_lst (pa_cons (pe_tup (pa_cons pe_int (pa_cons pe_int pa_nil))) pa_nil)))
      (pss_cons (ps_set (i := 4) scFirst.nd rfl (Or.inl rfl) pe_int)
      (pss_cons (ps_while PassesOwn.never (pt_cmpR op_lt (pv 4) (pe_callB call_len_seq (by rfl) TT.len PySem.boot_len (pa_cons (pv 3) pa_nil)) (nomark _))
        (pss_cons (ps_asg (pe_ix ix_list (pv 3) (pv 4) (fun _ _ => rfl)) (pg_tup rfl (pgs_cons (pg_name (i := 5) scFirst.nd rfl (Or.inl rfl)) (pgs_cons (pg_name (i := 6) scFirst.nd rfl (Or.inl rfl)) pgs_nil))))
        (pss_cons (ps_for PassesOwn.never rfl (pi_list (pe_callB (call_sortedD rfl) (by rfl) TT.sorted (by decide +kernel) (pa_cons (pe_ix ix_list (pv 0) (pv 5) (fun _ _ => rfl)) pa_nil))) (pg_name (i := 7) scFirst.nd rfl (Or.inl rfl))
          (pss_cons (ps_if (pt_cmp (pc_dnotin hu (pv 7) (pe_ix ix_list (pv 1) (pv 6) (fun _ _ => rfl)))) (pss_one (ps_ret (pe_op op_add_str (pe_callD D hr pass0 (pa_cons (pv 2) (pa_cons (pe_tup (pa_cons (pv 5) (pa_cons (pv 6) pa_nil))) pa_nil))) (pv 7)))) pss_nil)
          (pss_cons (ps_set (i := 8) scFirst.nd rfl (Or.inl rfl) (pe_tup (pa_cons (pe_dget hu (pe_ix ix_list (pv 0) (pv 5) (fun _ _ => rfl)) (pv 7) (fun _ _ => rfl)) (pa_cons (pe_dget hu (pe_ix ix_list (pv 1) (pv 6) (fun _ _ => rfl)) (pv 7) (fun _ _ => rfl)) pa_nil))))
          (pss_one (ps_if (pt_cmp (pc_nnotin hu (pv 8) (pv 2)))
            (pss_cons (ps_nput hu (pv 2) (pv 8) (pe_tup (pa_cons (pe_tup (pa_cons (pv 5) (pa_cons (pv 6) pa_nil))) (pa_cons (pv 7) pa_nil))) rfl)
              (pss_one (ps_expr (pe_bm PySem.F.plainAttrs_list PySem.F.slot_list_append PySem.F.type_list_append mt_append (pv 3) (pa_cons (pv 8) pa_nil))))) pss_nil)))))
        (pss_one (ps_set (i := 4) scFirst.nd rfl (Or.inl rfl) (pe_op op_add (pv 4) pe_int))))))
      (pss_one (ps_ret pe_non))))), ?_⟩
    -- before = {(0, 0): None}
    intro d nd
    refine ⟨by show 2 ≤ sizeLine; decide, fun t0 nt0 => ?_⟩
    have hd0t : d ≠ t0 := fun q => by rw [← q, upd_same] at nt0; cases nt0
    refine ⟨by rw [upd_ne hd0t, upd_same], t0, pk0, rfl, SqT.of (by rw [upd_same]; rfl), ?_⟩
    -- waiting = [(0, 0)]
    refine ⟨by show 2 ≤ sizeLine; decide, fun t1 nt1 => ⟨by show 1 ≤ sizeLine; decide, fun wl nwl => ?_⟩⟩
    have hdw : d ≠ wl := fun q => by
      rw [← q, upd_ne (show d ≠ t1 from fun z => by rw [← z, upd_same] at nt1; cases nt1), upd_same] at nwl
      cases nwl
    have hdt1 : d ≠ t1 := fun z => by rw [← z, upd_same] at nt1; cases nt1
    have h01 : t0 ≠ t1 := fun z => by rw [← z, upd_ne hd0t.symm, upd_same] at nt1; cases nt1
    have h0w : t0 ≠ wl := fun z => by rw [← z, upd_ne h01, upd_ne hd0t.symm, upd_same] at nwl; cases nwl
    have h1w : t1 ≠ wl := fun z => by rw [← z, upd_same] at nwl; cases nwl
    have nw : H wl = none := by
      rw [upd_ne h1w.symm, upd_ne hdw.symm, upd_ne h0w.symm, upd_ne hdw.symm] at nwl
      exact nwl
    have B0 : FB P w K H (upd (upd (upd (upd (upd H d (NO P w d [])) t0 (.tup [.int 0, .int 0])) d (NO P w d [(pk0, t0, .non)])) t1 (.tup [.int 0, .int 0])) wl (.lst [.ref t1])) d wl [(pk0, [])] [(pk0, t0, .non)] [t1] := by
      have e0 : SqT K (upd (upd (upd (upd (upd H d (NO P w d [])) t0 (.tup [.int 0, .int 0])) d (NO P w d [(pk0, t0, .non)])) t1 (.tup [.int 0, .int 0])) wl (.lst [.ref t1])) t0 (pkV pk0) := SqT.of (by rw [upd_ne h0w, upd_ne h01, upd_ne hd0t.symm, upd_same]; rfl)
      have e1 : SqT K (upd (upd (upd (upd (upd H d (NO P w d [])) t0 (.tup [.int 0, .int 0])) d (NO P w d [(pk0, t0, .non)])) t1 (.tup [.int 0, .int 0])) wl (.lst [.ref t1])) t1 (pkV pk0) := SqT.of (by rw [upd_ne h1w, upd_same]; rfl)
      refine ⟨?_, ⟨by rw [upd_ne hdw, upd_ne hdt1, upd_same], fun e he => ?_⟩, .cons ⟨rfl, .inl ⟨rfl, rfl⟩⟩ .nil, by rw [upd_same]; rfl, .cons e1 .nil, fun i x hx => ?_⟩
      · refine sameU (sameU (sameP (sameU (same_upd nd) nt0) nd) nt1) nwl
      · have e' : e = (pk0, t0, .non) := by simpa using he
        subst e'
        exact e0
      · cases i with
        | zero =>
          have e : (pk0, []) = x := by simpa using hx
          subst e
          exact Nat.zero_le _
        | succ i => simp at hx
    have I0 : BI (dB T U) (letsB T) pk0 [(pk0, [])] 0 [] := BI.start
    obtain ⟨as, hl, has⟩ := id hT
    obtain ⟨bs, hm, hbs⟩ := id hU
    refine ⟨fun mm σ H' => ∃ at_ : Nat, mm = 1000001 - at_ ∧ FInv P w K H l m d wl T U at_ σ H', ⟨_, 0, rfl, _, _, _, none, none, none, none, Nat.zero_le _, rfl, B0, I0⟩, ?_⟩
    clear B0 I0
    rintro mm σ H1 ⟨at_, rfl, ents, es, ws, v5, v6, v7, v8, hat, rfl, B, I⟩
    have wlen : (ws.map V.ref).length = ents.length := by rw [List.length_map]; exact B.len.1
    refine ⟨_, rfl, _, rfl, wl, _, rfl, .inl (SqL.of B.wt), _, _, rfl, rfl, _, rfl, ite2 (fun hlt => ?_) (fun hge => ?_)⟩
    · -- a turn
      have hlt' : at_ < ents.length := by
        have := of_decide_eq_true hlt
        rw [wlen] at this
        omega
      have hmany := BI.many wfT wfU lT lU I
      refine ⟨fun σ' H' => FInv P w K H l m d wl T U (at_ + 1) σ' H', fun σ' H' q => ⟨1000001 - (at_ + 1), by omega, at_ + 1, rfl, q⟩, ?_⟩
      obtain ⟨x, hx⟩ : ∃ x, ents[at_]? = some x := ⟨ents[at_], List.getElem?_eq_getElem hlt'⟩
      have hxm := List.mem_of_getElem? hx
      obtain ⟨i, j, ex, hi, hj⟩ := BI.shape wfT wfU I hxm
      obtain ⟨xp, u⟩ := x
      obtain rfl : xp = (some i, some j) := ex
      obtain ⟨a, ha, hpa⟩ := paired_get' B.ww hx
      have haw : (ws.map V.ref)[at_]? = some (.ref a) := by rw [List.getElem?_map, ha]; rfl
      refine ⟨_, rfl, _, rfl, wl, _, _, _, rfl, rfl, SqL.of B.wt, atI_nat haw, a, _, rfl, hpa, rfl, _, _, rfl, _, _, rfl, rfl, ?_⟩
      -- the rows
      obtain ⟨r, hr⟩ : ∃ r, T[i]? = some r := ⟨T[i], List.getElem?_eq_getElem hi⟩
      obtain ⟨ru, hru⟩ : ∃ r, U[j]? = some r := ⟨U[j], List.getElem?_eq_getElem hj⟩
      obtain ⟨ra, hra, hRow⟩ := paired_get' has hr
      obtain ⟨rb, hrb, hRowU⟩ := paired_get' hbs hru
      have hra' : (as.map V.ref)[i]? = some (.ref ra) := by rw [List.getElem?_map, hra]; rfl
      have hrb' : (bs.map V.ref)[j]? = some (.ref rb) := by rw [List.getElem?_map, hrb]; rfl
      have r26 := wfT.row_len (List.mem_of_getElem? hr)
      refine ⟨_, rfl, _, rfl, l, _, _, _, rfl, rfl, SqL.of (B.same _ _ hl), atI_nat hra', ra, rowD r, (r.map (·.1)).map lt, rfl, .inl (B.same _ _ hRow), rowD_keys r, by rw [List.length_map, List.length_map]; omega, fun ys p hperm hsort np => ?_⟩
      obtain ⟨cs, rfl, hcs⟩ := perm_lt hperm
      have hsorted := sorted_lt hsort
      have hcl : (cs.map lt).map V.str = cs.map lV := by rw [List.map_map]; rfl
      rw [hcl]
      have np0 : H p = none := B.same.free np
      refine ⟨p, rfl, ⟨_, SqL.of upd_same⟩, for_list (K := K) (a := p) (xs := cs.map lV) (fun n σ H' => ∃ (ents : List (PK × List Nat)) (es : List NE) (ws : List Addr) (v7 v8 : Option V), σ = [some (.ref l), some (.ref m), some (.ref d), some (.ref wl), some (.int (at_ : Nat)), some (.int (i : Nat)), some (.int (j : Nat)), v7, v8] ∧
        FB P w K H H' d wl ents es ws ∧ BI (dB T U) (letsB T) pk0 ents at_ (cs.take n) ∧ ents[at_]? = some ((some i, some j), u) ∧ H' p = some (.lst (cs.map lV)))
        ⟨ents, es, ws, v7, v8, rfl, B.up (same_upd np), I, hx, upd_same⟩ (fun n σ H' _ ⟨_, _, _, _, _, _, _, _, _, q⟩ => SqL.of q) ?_ ?_⟩
      · clear B I hx hxm hlt' hmany haw hpa ha wlen hat hlt
        rintro n y σ H2 hy ⟨ents, es, ws, v7, v8, rfl, B, I, hx, hpl⟩
        rw [List.getElem?_map, Option.map_eq_some_iff] at hy
        obtain ⟨c, hc, rfl⟩ := hy
        have hxm := List.mem_of_getElem? hx
        have hat := (List.getElem?_eq_some_iff.mp hx).1
        have hmany := BI.many wfT wfU lT lU I
        have hcr : c ∈ r.map (·.1) := hcs.mem_iff.mp (List.mem_of_getElem? hc)
        have hle : ∀ e ∈ cs.take n, e ≤ c := fun e he => by
          obtain ⟨q, hq⟩ := List.getElem?_of_mem he
          rw [List.getElem?_take] at hq
          by_cases hqn : q < n
          · rw [if_pos hqn] at hq
            obtain ⟨l1, e1⟩ := List.getElem?_eq_some_iff.mp hq
            obtain ⟨l2, e2⟩ := List.getElem?_eq_some_iff.mp hc
            have := (List.pairwise_iff_getElem.mp hsorted) q n l1 l2 hqn
            rw [e1, e2] at this
            exact this
          · rw [if_neg hqn] at hq
            cases hq
        obtain ⟨a', ha'⟩ := lookup_isSome.mpr hcr
        have hstep : stepT T i c = some a' := (stepT_row hr c).trans ha'
        refine ⟨_, rfl, _, rfl, _, rfl, m, _, _, _, rfl, rfl, SqL.of (B.same _ _ hm), atI_nat hrb', rb, _, rfl, DGet.k (k := Sum.inr (lt c)) (B.same _ _ hRowU), _, rfl, ?_⟩
        rw [valV_rowD]
        cases hlk : ru.lookup c with
        | none =>
          -- a letter that the other has not
          have hbad : dB T U (some i, some j) c = none := by
            rw [dB_eq, joinB_none]
            exact .inr ((stepT_row hru c).trans hlk)
          refine iteT ⟨_, rfl, _, rfl, _, rfl, by show 2 ≤ sizeLine; decide, fun t nt => ?_⟩
          have B2 := B.up (same_upd nt (o := .tup [.int (i : Nat), .int (j : Nat)]))
          have hul : u.length ≤ 1000000 := Nat.le_trans (B.ln at_ _ hx) (by omega)
          refine ⟨d, t, es, ents, _, rfl, B2.nd, B2.tr, I.nodup, hxm, SqT.of upd_same, hul, fun H3 s3 => ?_⟩
          refine ⟨_, rfl, _, _, rfl, rfl, ?_, ?_⟩
          · show u.toArray.size + 1 ≤ sizeLine
            have : sizeLine = 16777216 := sizeLine_eq
            simp
            omega
          · rw [wS_snoc]
            refine k (some (u ++ [c])) H3 (B2.same.trans s3) (beyond_some (I.runs _ hxm) (by rw [letsB_row hr]; exact hcr) hbad fun v e q h1 h2 h3 => ?_)
            refine BI.first_bad I dB_lets hx (fun e he => ?_) v e q h1 h2 h3
            have he' : e ∈ letsB T (some i, some j) := he
            rw [letsB_row hr] at he'
            obtain ⟨q, hq⟩ := List.getElem?_of_mem (hcs.mem_iff.mpr he')
            by_cases hqn : q < n
            · exact .inl (List.mem_of_getElem? (by rw [List.getElem?_take, if_pos hqn]; exact hq : (cs.take n)[q]? = some e))
            · right
              obtain ⟨l1, e1⟩ := List.getElem?_eq_some_iff.mp hq
              obtain ⟨l2, e2⟩ := List.getElem?_eq_some_iff.mp hc
              rcases Nat.lt_or_eq_of_le (Nat.le_of_not_lt hqn) with h | h
              · have := (List.pairwise_iff_getElem.mp hsorted) n q l2 l1 h
                rw [e1, e2] at this
                exact this
              · subst h
                rw [hc] at hq
                cases hq
                exact Nat.le_refl _
        | some b' =>
          have hq : dB T U (some i, some j) c = some (some a', some b') := by
            rw [dB_eq]
            show joinB (stepT T i c) (stepT U j c) = _
            rw [hstep, stepT_row hru c, hlk]
            rfl
          have g1 : DGet H2 ra (lV c) (some (.int (a' : Nat))) := by
            have := DGet.k (k := Sum.inr (lt c)) (B.same _ _ hRow)
            rw [valV_rowD, ha'] at this
            exact this
          have g2 : DGet H2 rb (lV c) (some (.int (b' : Nat))) := by
            have := DGet.k (k := Sum.inr (lt c)) (B.same _ _ hRowU)
            rw [valV_rowD, hlk] at this
            exact this
          refine iteF ?_
          refine ⟨_, rfl, _, rfl, l, _, _, _, rfl, rfl, SqL.of (B.same _ _ hl), atI_nat hra', _, rfl, ra, _, rfl, g1, _, rfl, _, rfl, m, _, _, _, rfl, rfl, SqL.of (B.same _ _ hm), atI_nat hrb', _, rfl, rb, _, rfl, g2, by show 2 ≤ sizeLine; decide, fun pb npb => ?_⟩
          have B3 := B.up (same_upd npb (o := .tup [.int (a' : Nat), .int (b' : Nat)]))
          have hp3 : PairAt K (upd H2 pb (.tup [.int (a' : Nat), .int (b' : Nat)])) pb (some a', some b') := SqT.of upd_same
          have hpl3 : upd H2 pb (.tup [.int (a' : Nat), .int (b' : Nat)]) p = some (.lst (cs.map lV)) := by rw [upd_ne (ne_of_none hpl npb)]; exact hpl
          refine ⟨_, rfl, _, rfl, d, es, pb, (some a', some b'), rfl, B3.nd, rfl, hp3, _, rfl, ?_⟩
          have htk : cs.take (n + 1) = cs.take n ++ [c] := take_snoc hc
          by_cases hin : (some a', some b') ∈ ents.map (·.1)
          · have e : (valN es (some a', some b')).isSome = true := valN_keys.mpr (by rw [B3.tr.keys]; exact hin)
            rw [e]
            refine iteF ⟨ents, es, ws, _, _, rfl, B3, ?_, hx, hpl3⟩
            rw [htk]
            exact I.old hx hle hq hin
          · have e : (valN es (some a', some b')).isSome = false := by
              rw [Bool.eq_false_iff]
              intro z
              have := valN_keys.mp z
              rw [B3.tr.keys] at this
              exact hin this
            rw [e]
            refine iteT ⟨_, rfl, _, rfl, by show 2 ≤ sizeLine; decide, fun tp ntp => ⟨_, rfl, by show 2 ≤ sizeLine; decide, fun t nt => ?_⟩⟩
            have B4 := B3.up (same_upd ntp (o := .tup [.int (i : Nat), .int (j : Nat)]))
            have B5 := B4.up (same_upd nt (o := .tup [.ref tp, lV c]))
            have htp : tp ≠ t := fun z => by rw [← z, upd_same] at nt; cases nt
            have hp5 := sqT_same (same_upd nt (o := .tup [.ref tp, lV c])) (sqT_same (same_upd ntp (o := .tup [.int (i : Nat), .int (j : Nat)])) hp3)
            refine ⟨_, rfl, _, rfl, d, es, pb, (some a', some b'), rfl, B5.nd, rfl, hp5, by have := B5.len.2; have : sizeLine = 16777216 := sizeLine_eq; omega, ?_⟩
            have hdw : d ≠ wl := ne_of B5.nd.at_ B5.wt (fun z => nomatch z)
            refine ⟨_, rfl, .inl ⟨rfl, _, SqL.of (by rw [upd_ne hdw.symm]; exact B5.wt)⟩, _, rfl, wl, _, _, rfl, rfl, (by rw [upd_ne hdw.symm]; exact B5.wt), by rw [List.length_map]; have := B5.len.1; have : sizeLine = 16777216 := sizeLine_eq; omega, ?_⟩
            have B6 := B5.push nd nw hx hp5 (SqT.of upd_same) (SqT.of (by rw [upd_ne htp, upd_same]; rfl)) hin
            refine ⟨_, _, _, _, _, rfl, B6, ?_, by rw [List.getElem?_append_left hat]; exact hx, ?_⟩
            · rw [htk]
              exact I.new hx hle hq hin
            · have hpd : p ≠ d := fun z => by rw [z, B3.nd.at_] at hpl3; cases hpl3
              have hpw : p ≠ wl := fun z => by
                rw [z, B.wt] at hpl
                injection hpl with hpl
                injection hpl with hpl
                have hw0 : 0 < ws.length := by have := B.len.1; omega
                cases hws : ws with
                | nil => rw [hws] at hw0; cases hw0
                | cons w0 ws' =>
                  rw [hws] at hpl
                  cases cs with
                  | nil => cases hpl
                  | cons c0 cs' => cases hpl
              rw [upd_ne hpw, upd_ne hpd]
              exact (same_upd nt _ _ ((same_upd ntp) _ _ hpl3))
      · rintro σ H2 ⟨ents, es, ws, v7, v8, rfl, B, I, hx, hpl⟩
        rw [List.length_map, List.take_length] at I
        refine ⟨_, rfl, _, _, rfl, rfl, ents, es, ws, _, _, _, _, (List.getElem?_eq_some_iff.mp hx).1, rfl, B, I.turn fun z hz c hc => ?_⟩
        rw [hx] at hz
        cases hz
        have hc' : c ∈ letsB T (some i, some j) := hc
        rw [letsB_row hr] at hc'
        exact hcs.mem_iff.mpr hc'
    · -- the end
      have hge' : ents.length ≤ at_ := by
        have : ¬ ((at_ : Int) < ((ws.map V.ref).length : Nat)) := fun q => hge (decide_eq_true q)
        rw [wlen] at this
        omega
      exact k none H1 B.same (beyond_none fun p hp c hc => BI.none_bad I dB_lets hge' hp c hc)
end
end KW
/-! KwD5: Kind.__eq__, beyond, row_at. -/
namespace KW
open PySem PySem.Spec PyProof.Rows L2
abbrev sBeyond : Stmt := top 25
abbrev sRowAt : Stmt := top 27
/-- two kinds of the same weathers -/
def Alike (C : Addr) (a b : Addr) (H : Hp) : Prop := ∃ T U, KAt C H a T ∧ KAt C H b U ∧ ∀ w, Of T w ↔ Of U w
theorem resV_none {r : Option (List Nat)} : decide (resV r = .non) = r.isNone := by
  cases r with
  | none => exact decide_eq_true rfl
  | some u => exact decide_eq_false (fun q => nomatch q)
theorem lk_no {m : Str} (v : V) (h : (m == ("rows" : Str)) = false) : ([(("rows" : Str), v)] : List (Str × V)).lookup m = none := by simp [List.lookup, h]
def spBeyond (C : Addr) : Sp := fun vs H Q _ => ∃ (a b : Addr) (T U : Tab), vs = [.ref a, .ref b] ∧ KAt C H a T ∧ KAt C H b U ∧ ∀ r H', Same H H' → Beyond T U r → Q (resV r) H'
def spRowAt : Sp := fun vs H Q _ => ∃ (l : Addr) (T : Tab) (x : Option Nat), vs = [.ref l, optV x] ∧ TabAt H l T ∧ (∀ i, x = some i → i < T.length) ∧
  ∀ a r H', Same H H' → RowAt H' a r → (∀ i, x = some i → T[i]? = some r) → (x = none → r = []) → Q (.ref a) H'
section
variable {P : Program} {w : World} {K : PySem.W.Frag} {mg : Str → Option Value} {base : Heap} {C : Addr}
theorem scEq : FnScope ["self", "other"] ["self", "other"] (defScope sEq) := ⟨rfl, rfl, rfl, by decide +kernel, rfl, by decide +kernel, by decide +kernel⟩
theorem kit_self (t : Value) (h : (t == t) = true) : PySem.W.kitOne K t t = some true := by
  show (if (t == t) = true then some true else _) = some true
  rw [if_pos h]
theorem ok_eq {f : Addr} {fd : FuncData} (F : Fun K "__eq__" "Kind.__eq__" sEq f fd) (T : TX K mg) (TC : TK K mg C) (D : Def P w K mg base CX0 2 "first_beyond" ["table", "other"] spFirst) : FnOk P w K mg base CX0 3 f fd ["self", "other"] (spEq (Alike C)) := by
  refine F.ok scEq (fun vs H Q E h => ?_) (fun cdv A outer s H vs Q E hr h => ?_)
  · obtain ⟨a, b, rfl, _⟩ := h
    rfl
  · obtain ⟨a, b, rfl, ⟨U, W, ⟨⟨dx, l, ha, hU⟩, wU, lU⟩, ⟨⟨dy, m, hb, hW⟩, wW, lW⟩, eq⟩, k⟩ := h
    refine ⟨_, pss_cons (ps_if (pt_not (pt_val (pe_callB call_isi (by rfl) T.isi (by decide +kernel) (pa_cons (pv 1) (pa_cons (pe_glob (v := .ref C) (by rfl) TC.mgC rfl) pa_nil))))) (pss_one (ps_ret pe_bl)) pss_nil)
      (pss_one (ps_ret (pe_and (pe_cmpR op_isN (pe_callD D hr pass0 (pa_cons (pe_fld (pv 0) rfl) (pa_cons (pe_fld (pv 1) rfl) pa_nil))) pe_non (nomark _)) (pe_one (pe_cmpR op_isN (pe_callD D hr pass0 (pa_cons (pe_fld (pv 1) rfl) (pa_cons (pe_fld (pv 0) rfl) pa_nil))) pe_non (nomark _)))))), ?_⟩
    refine ⟨_, rfl, .ref b, .ref C, .ref C, .ref C, true, rfl, .own C, TC.ty _ _ _ _ hb, kit_self _ (by simp), true, rfl, iteF ?_⟩
    refine ⟨_, rfl, a, C, dx, _, _, rfl, ha, TC.cls, TC.nR, lk_rows _, _, rfl, b, C, dy, _, _, rfl, hb, TC.cls, TC.nR, lk_rows _, l, m, U, W, rfl, hU, hW, wU, wW, lU, lW, fun r H1 s1 hr1 => ?_⟩
    obtain rfl : r = none := hr1.none_iff.mpr fun w h => (eq w).mp h
    refine ⟨rfl, true, rfl, iteT ?_⟩
    refine ⟨_, rfl, b, C, dy, _, _, rfl, s1 _ _ hb, TC.cls, TC.nR, lk_rows _, _, rfl, a, C, dx, _, _, rfl, s1 _ _ ha, TC.cls, TC.nR, lk_rows _, m, l, W, U, rfl, hW.same s1, hU.same s1, wW, wU, lW, lU, fun r H2 s2 hr2 => ?_⟩
    obtain rfl : r = none := hr2.none_iff.mpr fun w h => (eq w).mpr h
    exact ⟨rfl, k _ (s1.trans s2)⟩
theorem scBeyond : FnScope ["kind", "other"] ["kind", "other"] (defScope sBeyond) := ⟨rfl, rfl, rfl, by decide +kernel, rfl, by decide +kernel, by decide +kernel⟩
theorem ok_beyond {f : Addr} {fd : FuncData} (F : Fun K "beyond" "beyond" sBeyond f fd) (T : TX K mg) (TC : TK K mg C) (D : Def P w K mg base CX0 2 "first_beyond" ["table", "other"] spFirst) (D2 : DefM P w K mg base CX0 1 C "table" ["self"] (spTab C)) :
    FnOk P w K mg base CX0 3 f fd ["kind", "other"] (spBeyond C) := by
  refine F.ok scBeyond (fun vs H Q E h => ?_) (fun cdv A outer s H vs Q E hr h => ?_)
  · obtain ⟨a, b, U, W, rfl, _⟩ := h
    rfl
  · obtain ⟨a, b, U, W, rfl, hU, hW, k⟩ := h
    refine ⟨_, pss_one (ps_ret (pe_callD D hr pass0 (pa_cons (pe_methD0 D2 TC.cls hr pass0 (pv 0)) (pa_cons (pe_methD0 D2 TC.cls hr pass0 (pv 1)) pa_nil)))), ?_⟩
    obtain ⟨⟨dx, l, ha, _⟩, _⟩ := id hU
    obtain ⟨⟨dy, m, hb, _⟩, _⟩ := id hW
    refine ⟨_, rfl, a, dx, _, rfl, ha, lk_no _ (by decide +kernel), a, U, rfl, hU, fun l1 H1 s1 t1 => ?_⟩
    refine ⟨_, rfl, b, dy, _, rfl, s1 _ _ hb, lk_no _ (by decide +kernel), b, W, rfl, hW.same s1, fun l2 H2 s2 t2 => ?_⟩
    exact ⟨l1, l2, U, W, rfl, t1.same s2, t2, hU.wf, hW.wf, hU.len, hW.len, fun r H3 s3 hr3 => k r H3 ((s1.trans s2).trans s3) hr3⟩
theorem scRowAt : FnScope ["table", "number"] ["table", "number"] (defScope sRowAt) := ⟨rfl, rfl, rfl, by decide +kernel, rfl, by decide +kernel, by decide +kernel⟩
theorem ok_rowAt {f : Addr} {fd : FuncData} (F : Fun K "row_at" "row_at" sRowAt f fd) : FnOk P w K mg base CX0 1 f fd ["table", "number"] spRowAt := by
  refine F.ok scRowAt (fun vs H Q E h => ?_) (fun cdv A outer s H vs Q E hr h => ?_)
  · obtain ⟨l, U, x, rfl, _⟩ := h
    rfl
  · obtain ⟨l, U, x, rfl, hU, hx, k⟩ := h
    refine ⟨_, pss_cons (ps_if (pt_cmpR op_isN (pv 1) pe_non (nomark _)) (pss_one (ps_ret pe_dnewK)) pss_nil) (pss_one (ps_ret (pe_ix ix_list (pv 0) (pv 1) (fun _ _ => rfl)))), ?_⟩
    refine ⟨_, rfl, rfl, _, rfl, ?_⟩
    cases x with
    | none =>
      have e : decide (optV none = .non) = true := decide_eq_true rfl
      rw [e]
      exact iteT fun d hd => k d [] _ (same_upd hd) upd_same (fun i h => nomatch h) fun _ => rfl
    | some i =>
      have e : decide (optV (some i) = .non) = false := decide_eq_false (fun q => nomatch q)
      rw [e]
      have hi := hx i rfl
      obtain ⟨as, a, h1, h2, h3⟩ := hU.row (List.getElem?_eq_getElem hi)
      have h2' : (as.map V.ref)[i]? = some (.ref a) := by rw [List.getElem?_map, h2]; rfl
      refine iteF ⟨_, rfl, _, rfl, l, _, _, _, rfl, rfl, SqL.of h1, atI_nat h2', k a _ H (Same.refl H) h3 (fun j hj => ?_) fun q => nomatch q⟩
      cases hj
      exact List.getElem?_eq_getElem hi
end
end KW
/-! KwD6: steps_of_both, steps_of_either. -/
namespace KW
open PySem PySem.Spec PyProof.Rows L2
abbrev sBoth : Stmt := top 26
abbrev sEither : Stmt := top 28
/-- a pair's steps, with where the pairs' tuples stand -/
abbrev StE := Nat × PK × Addr
def stD (xs : List StE) : List (Key × V) := xs.map fun x => (Sum.inr (lt x.1), V.ref x.2.2)
def stL (xs : List StE) : Steps := xs.map fun x => (x.1, x.2.1)
def StAt (K : PySem.W.Frag) (H : Hp) (d : Addr) (l : Steps) : Prop := ∃ xs : List StE, stL xs = l ∧ H d = some (.dK (stD xs)) ∧ ∀ x ∈ xs, PairAt K H x.2.2 x.2.1
theorem StAt.keep {K : PySem.W.Frag} {H H' : Hp} {d : Addr} {l : Steps} (h : StAt K H d l) (k1 : ∀ kvs, H d = some (.dK kvs) → H' d = some (.dK kvs)) (k2 : ∀ a xs, SqT K H a xs → SqT K H' a xs) : StAt K H' d l := by
  obtain ⟨xs, h1, h2, h3⟩ := h
  exact ⟨xs, h1, k1 _ h2, fun x hx => k2 _ _ (h3 x hx)⟩
theorem StAt.same {K : PySem.W.Frag} {H H' : Hp} {d : Addr} {l : Steps} (h : StAt K H d l) (s : Same H H') : StAt K H' d l := h.keep (fun _ q => s _ _ q) fun _ _ => sqT_same s
theorem valV_none_of {kvs : List (Key × V)} {k : Key} (h : k ∉ kvs.map (·.1)) : valV kvs k = none := by
  unfold valV
  rw [Option.map_eq_none_iff, List.find?_eq_none]
  intro x hx q
  exact h (List.mem_map.mpr ⟨x, hx, of_decide_eq_true q⟩)
theorem mergeK_nodup : ∀ {l kvs : List (Key × V)}, ((kvs ++ l).map (·.1)).Nodup → mergeK kvs l = kvs ++ l
  | [], kvs, _ => by rw [List.append_nil]; rfl
  | x :: l, kvs, h => by
    have hnot : x.1 ∉ kvs.map (·.1) := by
      rw [List.map_append, List.map_cons] at h
      have := (List.nodup_append.mp h).2.2
      exact fun hm => this _ hm x.1 (by simp) rfl
    have e : putK kvs x.1 x.2 = kvs ++ [x] := by
      unfold putK
      rw [if_neg]
      intro q
      rw [List.any_eq_true] at q
      obtain ⟨y, hy, e⟩ := q
      exact hnot (List.mem_map.mpr ⟨y, hy, of_decide_eq_true e⟩)
    show mergeK (putK kvs x.1 x.2) l = _
    rw [e, mergeK_nodup (l := l) (kvs := kvs ++ [x]) (by simpa using h)]
    simp
theorem stD_nodup {xs : List StE} (h : ((stL xs).map (·.1)).Nodup) : ((stD xs).map (·.1)).Nodup := by
  have e : (stD xs).map (·.1) = ((stL xs).map (·.1)).map fun c => (Sum.inr (lt c) : Key) := by
    unfold stD stL
    rw [List.map_map, List.map_map, List.map_map]
    rfl
  rw [e]
  exact nodup_map_on _ h fun x _ y _ q => lt_inj (Sum.inr.inj q)
/-- the list of (letter, pair) tuples in the making -/
def Acc (K : PySem.W.Frag) (H : Hp) (D : Addr) (xs : List StE) : Prop := ∃ ps : List Addr, H D = some (.lst (ps.map V.ref)) ∧ Paired (fun (p : Addr) (x : StE) => SqT K H p [lV x.1, .ref x.2.2] ∧ PairAt K H x.2.2 x.2.1) ps xs
theorem Acc.push {K : PySem.W.Frag} {H : Hp} {D : Addr} {xs : List StE} (h : Acc K H D xs) {tq tp : Addr} {q : PK} {c : Nat} (n1 : H tq = none) (n2 : upd H tq (.tup (pkV q)) tp = none) (hl : xs.length < 1000) :
    ∃ acc, upd (upd H tq (.tup (pkV q))) tp (.tup [lV c, .ref tq]) D = some (.lst acc) ∧ acc.length < sizeLine ∧ Acc K (upd (upd (upd H tq (.tup (pkV q))) tp (.tup [lV c, .ref tq])) D (.lst (acc ++ [.ref tp]))) D (xs ++ [(c, q, tq)]) := by
  obtain ⟨ps, h1, h2⟩ := h
  have s1 : Same H (upd (upd H tq (.tup (pkV q))) tp (.tup [lV c, .ref tq])) := sameU (same_upd n1) n2
  have hD := s1 _ _ h1
  have hpq : tq ≠ tp := fun z => by rw [← z, upd_same] at n2; cases n2
  have hlen := Paired.length h2
  refine ⟨_, hD, by rw [List.length_map, hlen]; exact Nat.lt_trans hl (by decide), ps ++ [tp], by rw [upd_same, List.map_append]; rfl, ?_⟩
  have kt : ∀ a xs, SqT K (upd (upd H tq (.tup (pkV q))) tp (.tup [lV c, .ref tq])) a xs → SqT K (upd (upd (upd H tq (.tup (pkV q))) tp (.tup [lV c, .ref tq])) D (.lst (ps.map V.ref ++ [.ref tp]))) a xs := fun a xs => sqT_put hD trivial
  refine paired_snoc ⟨kt _ _ (SqT.of upd_same), kt _ _ (SqT.of (by rw [upd_ne hpq, upd_same]))⟩ (paired_mono (fun p x r => ⟨kt _ _ (sqT_same s1 r.1), kt _ _ (sqT_same s1 r.2)⟩) h2)
/-- the steps by the letters cs -/
def stepsL (d : PK → Nat → Option PK) (p : PK) (cs : List Nat) : Steps := cs.filterMap fun c => (d p c).map fun q => (c, q)
theorem stepsL_is {d : PK → Nat → Option PK} {p : PK} {cs : List Nat} (hn : cs.Nodup) (h : ∀ c q, d p c = some q → c ∈ cs) : IsSteps d p (stepsL d p cs) := by
  have hm : ∀ c q, (c, q) ∈ stepsL d p cs ↔ c ∈ cs ∧ d p c = some q := fun c q => by
    unfold stepsL
    rw [List.mem_filterMap]
    constructor
    · rintro ⟨c', hc', e⟩
      rw [Option.map_eq_some_iff] at e
      obtain ⟨q', hq, e⟩ := e
      cases e
      exact ⟨hc', hq⟩
    · rintro ⟨h1, h2⟩
      exact ⟨c, h1, by rw [h2]; rfl⟩
  refine ⟨?_, fun c q => ⟨fun q1 => ((hm c q).mp q1).2, fun q1 => (hm c q).mpr ⟨h c q q1, q1⟩⟩⟩
  clear hm h
  induction cs with
  | nil => exact List.nodup_nil
  | cons c cs ih =>
    rw [List.nodup_cons] at hn
    have ih' := ih hn.2
    unfold stepsL at ih' ⊢
    rw [List.filterMap_cons]
    cases e : d p c with
    | none => exact ih'
    | some q =>
      show (((c, q) :: _).map (·.1)).Nodup
      rw [List.map_cons, List.nodup_cons]
      refine ⟨fun hmem => ?_, ih'⟩
      obtain ⟨z, hz, ez⟩ := List.mem_map.mp hmem
      obtain ⟨c', hc', e'⟩ := List.mem_filterMap.mp hz
      rw [Option.map_eq_some_iff] at e'
      obtain ⟨q', _, e'⟩ := e'
      subst e'
      have : c' = c := ez
      subst this
      exact hn.1 hc'
theorem stepsL_snoc_some {d : PK → Nat → Option PK} {p : PK} {cs : List Nat} {n c : Nat} {q : PK} (hc : cs[n]? = some c) (hq : d p c = some q) : stepsL d p (cs.take (n + 1)) = stepsL d p (cs.take n) ++ [(c, q)] := by
  unfold stepsL
  rw [take_snoc hc, List.filterMap_append]
  simp [hq]
theorem stepsL_snoc_none {d : PK → Nat → Option PK} {p : PK} {cs : List Nat} {n c : Nat} (hc : cs[n]? = some c) (hq : d p c = none) : stepsL d p (cs.take (n + 1)) = stepsL d p (cs.take n) := by
  unfold stepsL
  rw [take_snoc hc, List.filterMap_append]
  simp [hq]
/-- the promise of a def that tells the steps of a pair -/
def spSt (K : PySem.W.Frag) (dd : Tab → Tab → PK → Nat → Option PK) : Sp := fun vs H Q _ => ∃ (l m t : Addr) (T U : Tab) (p : PK), vs = [.ref l, .ref m, .ref t] ∧ TabAt H l T ∧ TabAt H m U ∧ WF T ∧ WF U ∧ PairAt K H t p ∧ Reach (dd T U) pk0 p ∧
  ∀ x L H', Same H H' → H x = none → StAt K H' x L → IsSteps (dd T U) p L → Q (.ref x) H'
/-- a dict of (letter, pair) tuples -/
theorem acc_dict {K : PySem.W.Frag} {H : Hp} {D : Addr} {xs : List StE} (h : Acc K H D xs) (hn : ((stL xs).map (·.1)).Nodup) {Q : VK} (k : ∀ x, H x = none → Q (.ref x) (upd H x (.dK (stD xs)))) :
    ∃ (a : Addr) (ps : List Addr) (kvs : List (Key × V)), [V.ref D] = [.ref a] ∧ SqL K H a (ps.map V.ref) ∧ Paired (fun p kv => SqT K H p [kV kv.1, kv.2]) ps kvs ∧ ∀ p, H p = none → Q (.ref p) (upd H p (.dK (mergeK [] kvs))) := by
  obtain ⟨ps, h1, h2⟩ := h
  refine ⟨D, ps, stD xs, rfl, SqL.of h1, ?_, fun p hp => ?_⟩
  · clear hn k h1
    induction h2 with
    | nil => exact .nil
    | cons r t ih => exact .cons r.1 ih
  · rw [mergeK_nodup (by simpa using stD_nodup hn), List.nil_append]
    exact k p hp
theorem acc_st {K : PySem.W.Frag} {H : Hp} {D : Addr} {xs : List StE} {x : Addr} (h : Acc K H D xs) (hx : H x = none) : StAt K (upd H x (.dK (stD xs))) x (stL xs) := by
  obtain ⟨ps, h1, h2⟩ := h
  refine ⟨xs, rfl, upd_same, fun z hz => ?_⟩
  obtain ⟨p, hp, r⟩ := paired_mem h2 z hz
  exact sqT_same (same_upd hx) r.2
section
variable {P : Program} {w : World} {K : PySem.W.Frag} {mg : Str → Option Value} {base : Heap} {C : Addr}
theorem scBoth : FnScope ["table", "other", "pair", "one", "two", "letter"] ["table", "other", "pair"] (defScope sBoth) := ⟨rfl, rfl, rfl, by decide +kernel, rfl, by decide +kernel, by decide +kernel⟩
theorem ok_both {f : Addr} {fd : FuncData} (F : Fun K "steps_of_both" "steps_of_both" sBoth f fd) (TT : TX K mg) : FnOk P w K mg base CX0 1 f fd ["table", "other", "pair"] (spSt K dB) := by
  refine F.ok scBoth (fun vs H Q E h => ?_) (fun cdv A outer s H vs Q E hr h => ?_)
  · obtain ⟨l, m, t, T, U, p, rfl, _⟩ := h
    rfl
  · obtain ⟨l, m, t, T, U, p, rfl, hT, hU, wT, wU, hp, hR, k⟩ := h
    have hu := hu_of hr
    refine ⟨_, pss_cons (ps_asg (pe_tup (pa_cons (pe_ix ix_list (pv 0) (pe_ix ix_tup (pv 2) pe_int (fun _ _ => rfl)) (fun _ _ => rfl)) (pa_cons (pe_ix ix_list (pv 1) (pe_ix ix_tup (pv 2) pe_int (fun _ _ => rfl)) (fun _ _ => rfl)) pa_nil)))
        (pg_tup rfl (pgs_cons (pg_name (i := 3) scBoth.nd rfl (Or.inr rfl)) (pgs_cons (pg_name (i := 4) scBoth.nd rfl (Or.inr rfl)) pgs_nil))))
      (pss_one (ps_ret (pe_callTy (call_dictP rfl) (by rfl) TT.dict (by decide +kernel) (pa_cons (pe_lc (own := [("letter", 5)]) (g := gName 5) rfl scBoth.nd (pi_list (pe_callB (call_sortedD rfl) (by rfl) TT.sorted (by decide +kernel) (pa_cons (pv 3) pa_nil)))
        (blkOk_by (N := ["table", "other", "pair", "one", "two", "letter"]) (sc := defScope sBoth) (by decide +kernel)) (fun _ _ _ _ _ => pg_name (i := 5) scBoth.nd rfl (Or.inl rfl)) (fun _ _ _ _ _ => pts_one (pt_cmp (pc_din hu (pv 5) (pv 4))))
        (fun _ _ _ _ _ => pe_tup (pa_cons (pv 5) (pa_cons (pe_tup (pa_cons (pe_dget hu (pv 3) (pv 5) (fun _ _ => rfl)) (pa_cons (pe_dget hu (pv 4) (pv 5) (fun _ _ => rfl)) pa_nil))) pa_nil)))) pa_nil)))), ?_⟩
    obtain ⟨i, j, rfl, hi, hj⟩ := reachB_shape wT wU hR
    obtain ⟨as, hl, has⟩ := id hT
    obtain ⟨bs, hm, hbs⟩ := id hU
    obtain ⟨r, hr⟩ : ∃ r, T[i]? = some r := ⟨T[i], List.getElem?_eq_getElem hi⟩
    obtain ⟨ru, hru⟩ : ∃ r, U[j]? = some r := ⟨U[j], List.getElem?_eq_getElem hj⟩
    obtain ⟨ra, hra, hRow⟩ := paired_get' has hr
    obtain ⟨rb, hrb, hRowU⟩ := paired_get' hbs hru
    have hra' : (as.map V.ref)[i]? = some (.ref ra) := by rw [List.getElem?_map, hra]; rfl
    have hrb' : (bs.map V.ref)[j]? = some (.ref rb) := by rw [List.getElem?_map, hrb]; rfl
    have r26 := wT.row_len (List.mem_of_getElem? hr)
    have hrn := (wT.row r (List.mem_of_getElem? hr)).2.1
    refine ⟨_, rfl, _, rfl, t, pkV (some i, some j), 0, _, rfl, rfl, hp, rfl, l, _, _, _, rfl, rfl, SqL.of hl, atI_nat hra', _, rfl, _, rfl, t, pkV (some i, some j), 1, _, rfl, rfl, hp, rfl, m, _, _, _, rfl, rfl, SqL.of hm, atI_nat hrb', by show 2 ≤ sizeLine; decide, fun t2 nt2 => ?_⟩
    refine ⟨t2, _, rfl, SqT.of upd_same, rfl, _, _, rfl, _, _, rfl, rfl, ?_⟩
    have sA := same_upd nt2 (o := .tup [.ref ra, .ref rb])
    refine ⟨_, rfl, ra, rowD r, (r.map (·.1)).map lt, rfl, .inl (sA _ _ hRow), rowD_keys r, by rw [List.length_map, List.length_map]; omega, fun ys pa hperm hsort np => ?_⟩
    obtain ⟨cs, rfl, hcs⟩ := perm_lt hperm
    have hcl : (cs.map lt).map V.str = cs.map lV := by rw [List.map_map]; rfl
    rw [hcl]
    have hcn : cs.Nodup := hcs.nodup_iff.mpr hrn
    have hcl26 : cs.length ≤ 26 := by rw [hcs.length_eq, List.length_map]; exact r26
    have sB := sameU sA np (o := .lst (cs.map lV))
    refine ⟨pa, rfl, ⟨_, SqL.of upd_same⟩, fun D hD => ?_⟩
    have hD0 : H D = none := sB.free hD
    have hDpa : pa ≠ D := fun z => by rw [← z, upd_same] at hD; cases hD
    refine lc_list (K := K) (a := pa) (xs := cs.map lV) (fun n H' => Same H H' ∧ H' pa = some (.lst (cs.map lV)) ∧ ∃ xs, Acc K H' D xs ∧ stL xs = stepsL (dB T U) (some i, some j) (cs.take n)) ⟨sameU sB hD, by rw [upd_ne hDpa, upd_same], [], ⟨[], upd_same, .nil⟩, rfl⟩ (fun n H' _ q => SqL.of q.2.1) ?_ ?_
    · rintro n x H1 hx ⟨s1, hpl, xs, acc, exs⟩
      rw [List.getElem?_map, Option.map_eq_some_iff] at hx
      obtain ⟨c, hc, rfl⟩ := hx
      obtain ⟨a', ha'⟩ := lookup_isSome.mpr (hcs.mem_iff.mp (List.mem_of_getElem? hc))
      have hstep : stepT T i c = some a' := (stepT_row hr c).trans ha'
      have hxl : xs.length ≤ 26 := by
        have : (stL xs).length ≤ (cs.take n).length := by rw [exs]; exact List.length_filterMap_le _ _
        rw [List.length_take] at this
        have e : (stL xs).length = xs.length := by simp [stL]
        omega
      refine ⟨rfl, _, rfl, _, rfl, rb, _, rfl, DGet.k (k := Sum.inr (lt c)) (s1 _ _ hRowU), _, rfl, ?_⟩
      rw [valV_rowD]
      cases hlk : ru.lookup c with
      | none =>
        have hbad : dB T U (some i, some j) c = none := by
          rw [dB_eq, joinB_none]
          exact .inr ((stepT_row hru c).trans hlk)
        exact iteF ⟨s1, hpl, xs, acc, by rw [stepsL_snoc_none hc hbad]; exact exs⟩
      | some b' =>
        have hq : dB T U (some i, some j) c = some (some a', some b') := by
          rw [dB_eq]
          show joinB (stepT T i c) (stepT U j c) = _
          rw [hstep, stepT_row hru c, hlk]
          rfl
        have g1 : DGet H1 ra (lV c) (some (.int (a' : Nat))) := by
          have := DGet.k (k := Sum.inr (lt c)) (s1 _ _ hRow)
          rw [valV_rowD, ha'] at this
          exact this
        have g2 : DGet H1 rb (lV c) (some (.int (b' : Nat))) := by
          have := DGet.k (k := Sum.inr (lt c)) (s1 _ _ hRowU)
          rw [valV_rowD, hlk] at this
          exact this
        refine iteT ⟨_, rfl, _, rfl, _, rfl, ra, _, rfl, g1, _, rfl, _, rfl, rb, _, rfl, g2, by show 2 ≤ sizeLine; decide, fun tq nq => ⟨by show 2 ≤ sizeLine; decide, fun tp ntp => ?_⟩⟩
        obtain ⟨ac, h1, h2, h3⟩ := acc.push (q := (some a', some b')) (c := c) nq ntp (by omega)
        refine ⟨ac, h1, h2, sameP (sameU (sameU s1 nq) ntp) hD0, ?_, _, h3, ?_⟩
        · have e1 : pa ≠ tq := ne_of_none hpl nq
          have e2 : pa ≠ tp := fun z => by
            rw [← z, upd_ne e1, hpl] at ntp
            cases ntp
          rw [upd_ne hDpa, upd_ne e2, upd_ne e1]
          exact hpl
        · rw [stepsL_snoc_some hc hq, ← exs]
          simp [stL]
    · rintro H1 ⟨s1, hpl, xs, acc, exs⟩
      rw [List.length_map, List.take_length] at exs
      have his : IsSteps (dB T U) (some i, some j) (stL xs) := by
        rw [exs]
        refine stepsL_is hcn fun c q hq => ?_
        have := dB_lets _ _ _ hq
        rw [letsB_row hr] at this
        exact hcs.mem_iff.mpr this
      refine acc_dict acc his.1 fun x hx => ?_
      exact k x (stL xs) _ (sameU s1 hx) (s1.free hx) (acc_st acc hx) his
theorem bind_row {T : Tab} {x : Option Nat} {r : Row} (h1 : ∀ i, x = some i → T[i]? = some r) (h2 : x = none → r = []) (c : Nat) : x.bind (stepT T · c) = r.lookup c := by
  cases x with
  | none => rw [h2 rfl]; rfl
  | some i => exact stepT_row (h1 i rfl) c
theorem row_few {T : Tab} (wf : WF T) {x : Option Nat} {r : Row} (h1 : ∀ i, x = some i → T[i]? = some r) (h2 : x = none → r = []) : r.length ≤ 26 ∧ (r.map (·.1)).Nodup := by
  cases x with
  | none => rw [h2 rfl]; exact ⟨Nat.zero_le _, List.nodup_nil⟩
  | some i => exact ⟨wf.row_len (List.mem_of_getElem? (h1 i rfl)), (wf.row r (List.mem_of_getElem? (h1 i rfl))).2.1⟩
theorem rd_lock {H : Hp} {a b : Addr} {u u' : HO} {od : Obj} (h : H a = some u) (h' : H b = some u') : Rd (upd H b (.frz od u')) a u := by
  by_cases e : a = b
  · subst e
    rw [h'] at h
    cases h
    exact .inr ⟨od, upd_same⟩
  · exact .inl (by rw [upd_ne e]; exact h)
theorem rd_same {H H' : Hp} {a : Addr} {u : HO} (s : Same H H') (h : Rd H a u) : Rd H' a u := by
  rcases h with h | ⟨o, h⟩
  · exact .inl (s _ _ h)
  · exact .inr ⟨o, s _ _ h⟩
theorem dget_row {H : Hp} {a : Addr} {r : Row} (h : Rd H a (.dK (rowD r))) (c : Nat) : DGet H a (lV c) ((r.lookup c).map fun n => V.int (n : Int)) := .inl ⟨_, Sum.inr (lt c), h, rfl, valV_rowD.symm⟩
theorem getD_opt (x : Option Nat) : (x.map fun n => V.int (n : Int)).getD .non = optV x := by cases x <;> rfl
theorem scEither : FnScope ["table", "other", "pair", "one", "two", "letters", "letter"] ["table", "other", "pair"] (defScope sEither) := ⟨rfl, rfl, rfl, by decide +kernel, rfl, by decide +kernel, by decide +kernel⟩
theorem ok_either {f : Addr} {fd : FuncData} (F : Fun K "steps_of_either" "steps_of_either" sEither f fd) (TT : TX K mg) (D0 : Def P w K mg base CX0 1 "row_at" ["table", "number"] spRowAt) : FnOk P w K mg base CX0 2 f fd ["table", "other", "pair"] (spSt K dE) := by
  refine F.ok scEither (fun vs H Q E h => ?_) (fun cdv A outer s H vs Q E hr h => ?_)
  · obtain ⟨l, m, t, T, U, p, rfl, _⟩ := h
    rfl
  · obtain ⟨l, m, t, T, U, p, rfl, hT, hU, wT, wU, hp, hR, k⟩ := h
    have hu := hu_of hr
    refine ⟨_, pss_cons (ps_asg (pe_tup (pa_cons (pe_callD D0 hr pass0 (pa_cons (pv 0) (pa_cons (pe_ix ix_tup (pv 2) pe_int (fun _ _ => rfl)) pa_nil))) (pa_cons (pe_callD D0 hr pass0 (pa_cons (pv 1) (pa_cons (pe_ix ix_tup (pv 2) pe_int (fun _ _ => rfl)) pa_nil))) pa_nil)))
        (pg_tup rfl (pgs_cons (pg_name (i := 3) scEither.nd rfl (Or.inr rfl)) (pgs_cons (pg_name (i := 4) scEither.nd rfl (Or.inr rfl)) pgs_nil))))
      (pss_cons (ps_set (i := 5) scEither.nd rfl (Or.inl rfl) (pe_callB cr_sortedS (by rfl) TT.sorted (by decide +kernel) (pa_cons (pe_op op_cat (pe_callTy (call_listD rfl) (by rfl) TT.list (by decide +kernel) (pa_cons (pv 3) pa_nil))
        (pe_lock (pe_lc (own := [("letter", 6)]) (g := gName 6) rfl scEither.nd (pi_keys (pv 4)) (blkOk_by (N := ["table", "other", "pair", "one", "two", "letters", "letter"]) (sc := defScope sEither) (by decide +kernel))
          (fun _ _ _ _ _ => pg_name (i := 6) scEither.nd rfl (Or.inl rfl)) (fun _ _ _ _ _ => pts_one (pt_cmp (pc_dnotin hu (pv 6) (pv 3)))) (fun _ _ _ _ _ => pv 6)))) pa_nil)))
      (pss_one (ps_ret (pe_callTy (call_dictP rfl) (by rfl) TT.dict (by decide +kernel) (pa_cons (pe_lc (own := [("letter", 6)]) (g := gName 6) rfl scEither.nd (pi_list (pv 5))
        (blkOk_by (N := ["table", "other", "pair", "one", "two", "letters", "letter"]) (sc := defScope sEither) (by decide +kernel)) (fun _ _ _ _ _ => pg_name (i := 6) scEither.nd rfl (Or.inl rfl)) (fun _ _ _ _ _ => pts_nil)
        (fun _ _ _ _ _ => pe_tup (pa_cons (pv 6) (pa_cons (pe_tup (pa_cons (pe_dget1 hu (pv 3) (pv 6) ⟨rfl, rfl, rfl, rfl⟩) (pa_cons (pe_dget1 hu (pv 4) (pv 6) ⟨rfl, rfl, rfl, rfl⟩) pa_nil))) pa_nil)))) pa_nil))))), ?_⟩
    obtain ⟨hsh1, hsh2, hsh3⟩ := reachE_shape wT wU hR
    obtain ⟨p1, p2⟩ := p
    refine ⟨_, rfl, _, rfl, t, pkV (p1, p2), 0, _, rfl, rfl, hp, rfl, l, T, p1, rfl, hT, hsh1, fun ra r H1 s1 hRow hr1 hr0 => ?_⟩
    refine ⟨_, rfl, _, rfl, t, pkV (p1, p2), 1, _, rfl, rfl, sqT_same s1 hp, rfl, m, U, p2, rfl, hU.same s1, hsh2, fun rb ru H2 s2 hRowU hu1 hu0 => ?_⟩
    obtain ⟨r26, rn⟩ := row_few wT hr1 hr0
    obtain ⟨u26, un⟩ := row_few wU hu1 hu0
    have hst : ∀ c, dE T U (p1, p2) c = joinE (r.lookup c) (ru.lookup c) := fun c => by
      show joinE (p1.bind (stepT T · c)) (p2.bind (stepT U · c)) = _
      rw [bind_row hr1 hr0, bind_row hu1 hu0]
    refine ⟨by show 2 ≤ sizeLine; decide, fun t2 nt2 => ⟨t2, _, rfl, SqT.of upd_same, rfl, _, _, rfl, _, _, rfl, rfl, ?_⟩⟩
    have s3 : Same H (upd H2 t2 (.tup [.ref ra, .ref rb])) := sameU (s1.trans s2) nt2
    have hA : upd H2 t2 (.tup [.ref ra, .ref rb]) ra = some (.dK (rowD r)) := same_upd nt2 _ _ (s2 _ _ hRow)
    have hB : upd H2 t2 (.tup [.ref ra, .ref rb]) rb = some (.dK (rowD ru)) := same_upd nt2 _ _ hRowU
    generalize upd H2 t2 (.tup [.ref ra, .ref rb]) = H3 at s3 hA hB ⊢
    refine ⟨_, rfl, ra, rowD r, rfl, .inl hA, fun la nla => ?_⟩
    have sL := same_upd nla (o := .lst ((rowD r).map fun kv => kV kv.1))
    have hlk : (rowD r).map (fun kv => kV kv.1) = (r.map (·.1)).map lV := by
      unfold rowD
      rw [List.map_map, List.map_map]
      rfl
    rw [hlk] at sL ⊢
    have hA2 := sL _ _ hA
    have hB2 := sL _ _ hB
    have nlab : la ≠ rb := fun z => by rw [z, hB] at nla; cases nla
    refine ⟨rb, _, hB2, trivial, fun od => ⟨_, rfl, rb, od, rfl, .inl ⟨_, upd_same, fun D hD => ?_⟩⟩⟩
    have hDb : D ≠ rb := fun z => by rw [z, upd_same] at hD; cases hD
    have hDl : D ≠ la := fun z => by rw [z, upd_ne nlab, upd_same] at hD; cases hD
    have hRa : Rd (upd (upd H3 la (.lst ((r.map (·.1)).map lV))) rb (.frz od (.dK (rowD ru)))) ra (.dK (rowD r)) := rd_lock hA2 hB2
    refine lc_it walk_keys (fun n H' => Same (upd (upd H3 la (.lst ((r.map (·.1)).map lV))) rb (.frz od (.dK (rowD ru)))) H' ∧ H' D = some (.lst ((((ru.map (·.1)).take n).filter fun c => (r.lookup c).isNone).map lV))) ⟨same_upd hD, upd_same⟩ (fun n H' _ q => q.1 _ _ upd_same) ?_ ?_
    · rintro n x H4 H5 hn ⟨s4, hl4⟩ ⟨rfl, kk, v, ekv, rfl⟩
      obtain ⟨⟨c, q⟩, ec, _, eK⟩ := rowD_get hn
      rw [eK] at ekv
      cases ekv
      have ec' : (ru.map (·.1))[n]? = some c := by rw [List.getElem?_map, ec]; rfl
      refine ⟨rfl, _, rfl, _, rfl, ra, _, rfl, dget_row (rd_same s4 hRa) c, _, rfl, ?_⟩
      rw [take_snoc ec', List.filter_append]
      cases e : r.lookup c with
      | none =>
        refine iteT ⟨_, rfl, _, hl4, ?_, sameP s4 hD, ?_⟩
        · rw [List.length_map]
          have h1 := List.length_filter_le (fun c => (r.lookup c).isNone) ((ru.map (·.1)).take n)
          rw [List.length_take, List.length_map] at h1
          exact Nat.lt_of_le_of_lt (by omega : _ ≤ 26) (by decide)
        · rw [upd_same]
          simp [e]
          rfl
      | some z =>
        refine iteF ⟨s4, ?_⟩
        rw [hl4]
        simp [e]
    · rintro H4 ⟨s4, hl4⟩
      rw [rowD_len, ← List.length_map (f := fun x : Nat × Nat => x.1) (as := ru), List.take_length] at hl4
      have s5 : Same (upd H3 la (.lst ((r.map (·.1)).map lV))) (upd H4 rb (.dK (rowD ru))) := sameK hB2 s4
      have s6 : Same H (upd H4 rb (.dK (rowD ru))) := s3.trans (Same.trans (same_upd nla) s5)
      have hD4 : upd H4 rb (.dK (rowD ru)) D = some (.lst (((ru.map (·.1)).filter fun c => (r.lookup c).isNone).map lV)) := by rw [upd_ne hDb]; exact hl4
      have hA6 := s5 _ _ hA2
      have hB6 := s5 _ _ hB2
      have hl6 := s5 _ _ (upd_same (H := H3) (a := la) (o := .lst ((r.map (·.1)).map lV)))
      refine ⟨s4 _ _ upd_same, ?_⟩
      generalize upd H4 rb (.dK (rowD ru)) = H6 at s6 hD4 hA6 hB6 hl6 ⊢
      clear s4 hl4 s5
      have hnd : (r.map (·.1) ++ (ru.map (·.1)).filter fun c => (r.lookup c).isNone).Nodup := by
        rw [List.nodup_append]
        refine ⟨rn, un.filter _, fun a ha b hb e => ?_⟩
        subst e
        obtain ⟨_, h2⟩ := List.mem_filter.mp hb
        obtain ⟨q, hq⟩ := lookup_isSome.mpr ha
        rw [hq] at h2
        cases h2
      have hfl : ((ru.map (·.1)).filter fun c => (r.lookup c).isNone).length ≤ 26 := by
        have := List.length_filter_le (fun c => (r.lookup c).isNone) (ru.map (·.1))
        rw [List.length_map] at this
        omega
      generalize hK : (ru.map (·.1)).filter (fun c => (r.lookup c).isNone) = ks at hD4 hnd hfl ⊢
      refine ⟨la, D, _, _, rfl, rfl, hl6, hD4, by rw [List.length_map, List.length_map, List.length_map]; exact Nat.le_trans (by omega : _ ≤ 52) (by decide), fun lc nlc => ?_⟩
      have hcat : (r.map (·.1)).map lV ++ ks.map lV = ((r.map (·.1) ++ ks).map lt).map V.str := by simp [Function.comp_def]
      rw [hcat]
      refine ⟨lc, (r.map (·.1) ++ ks).map lt, rfl, SqL.of upd_same, by rw [List.length_map, List.length_append, List.length_map]; omega, fun ys pa hperm hsort np => ?_⟩
      obtain ⟨cs, rfl, hcs⟩ := perm_lt hperm
      have hcl : (cs.map lt).map V.str = cs.map lV := by rw [List.map_map]; rfl
      rw [hcl]
      have hcn : cs.Nodup := hcs.nodup_iff.mpr hnd
      have hcl52 : cs.length ≤ 52 := by rw [hcs.length_eq, List.length_append, List.length_map]; omega
      have hmem : ∀ c, c ∈ cs ↔ (c ∈ r.map (·.1) ∨ c ∈ ru.map (·.1)) := fun c => by
        rw [hcs.mem_iff, List.mem_append, ← hK, List.mem_filter]
        constructor
        · rintro (h | ⟨h, _⟩)
          · exact .inl h
          · exact .inr h
        · rintro (h | h)
          · exact .inl h
          · cases e : r.lookup c with
            | none => exact .inr ⟨h, rfl⟩
            | some q => exact .inl (lookup_isSome.mp ⟨q, e⟩)
      have s7 := same_upd nlc (o := .lst (((r.map (·.1) ++ ks).map lt).map V.str))
      have s8 := same_upd np (o := .lst (cs.map lV))
      have s9 : Same H _ := s6.trans (s7.trans s8)
      have hA9 := s8 _ _ (s7 _ _ hA6)
      have hB9 := s8 _ _ (s7 _ _ hB6)
      have hp9 : upd (upd H6 lc (.lst (((r.map (·.1) ++ ks).map lt).map V.str))) pa (.lst (cs.map lV)) pa = some (.lst (cs.map lV)) := upd_same
      generalize upd (upd H6 lc (.lst (((r.map (·.1) ++ ks).map lt).map V.str))) pa (.lst (cs.map lV)) = H9 at s9 hA9 hB9 hp9 ⊢
      refine ⟨_, rfl, pa, rfl, ⟨_, SqL.of hp9⟩, fun D2 hD2 => ?_⟩
      have hD0 : H D2 = none := s9.free hD2
      have hDpa : pa ≠ D2 := fun z => by rw [← z, hp9] at hD2; cases hD2
      refine lc_list (K := K) (a := pa) (xs := cs.map lV) (fun n H' => Same H H' ∧ H' pa = some (.lst (cs.map lV)) ∧ H' ra = some (.dK (rowD r)) ∧ H' rb = some (.dK (rowD ru)) ∧ ∃ xs, Acc K H' D2 xs ∧ stL xs = stepsL (dE T U) (p1, p2) (cs.take n))
        ⟨sameU s9 hD2, by rw [upd_ne hDpa]; exact hp9, same_upd hD2 _ _ hA9, same_upd hD2 _ _ hB9, [], ⟨[], upd_same, .nil⟩, rfl⟩ (fun n H' _ q => SqL.of q.2.1) ?_ ?_
      · rintro n x Hn hx ⟨sn, hpl, hAn, hBn, xs, acc, exs⟩
        rw [List.getElem?_map, Option.map_eq_some_iff] at hx
        obtain ⟨c, hc, rfl⟩ := hx
        have hq : dE T U (p1, p2) c = some (r.lookup c, ru.lookup c) := by
          rw [hst]
          cases e1 : r.lookup c with
          | some a => cases ru.lookup c <;> rfl
          | none =>
            cases e2 : ru.lookup c with
            | some b => rfl
            | none =>
              rcases (hmem c).mp (List.mem_of_getElem? hc) with h | h
              · obtain ⟨q, hq⟩ := lookup_isSome.mpr h
                rw [e1] at hq
                cases hq
              · obtain ⟨q, hq⟩ := lookup_isSome.mpr h
                rw [e2] at hq
                cases hq
        have hxl : xs.length ≤ 52 := by
          have : (stL xs).length ≤ (cs.take n).length := by rw [exs]; exact List.length_filterMap_le _ _
          rw [List.length_take] at this
          have e : (stL xs).length = xs.length := by simp [stL]
          omega
        refine ⟨rfl, _, rfl, _, rfl, ra, rfl, .inl ⟨_, .inl hAn⟩, _, rfl, _, dget_row (.inl hAn) c, _, rfl, rb, rfl, .inl ⟨_, .inl hBn⟩, _, rfl, _, dget_row (.inl hBn) c, by show 2 ≤ sizeLine; decide, ?_⟩
        rw [getD_opt, getD_opt]
        refine fun tq nq => ⟨by show 2 ≤ sizeLine; decide, fun tp ntp => ?_⟩
        obtain ⟨ac, h1, h2, h3⟩ := acc.push (q := (r.lookup c, ru.lookup c)) (c := c) nq ntp (by omega)
        have kk : ∀ b o, b ≠ D2 → Hn b = some o → upd (upd (upd Hn tq (.tup (pkV (r.lookup c, ru.lookup c)))) tp (.tup [lV c, .ref tq])) D2 (.lst (ac ++ [.ref tp])) b = some o := fun b o hb e => by
          rw [upd_ne hb]
          exact same_upd ntp _ _ (same_upd nq _ _ e)
        refine ⟨ac, h1, h2, sameP (sameU (sameU sn nq) ntp) hD0, kk _ _ hDpa hpl, kk _ _ (ne_of_none hA9 hD2) hAn, kk _ _ (ne_of_none hB9 hD2) hBn, _, h3, ?_⟩
        · rw [stepsL_snoc_some hc hq, ← exs]
          simp [stL]
      · rintro Hn ⟨sn, hpl, hAn, hBn, xs, acc, exs⟩
        rw [List.length_map, List.take_length] at exs
        have his : IsSteps (dE T U) (p1, p2) (stL xs) := by
          rw [exs]
          refine stepsL_is hcn fun c q hq => ?_
          rw [hst] at hq
          obtain ⟨_, h⟩ := joinE_some hq
          rw [hmem]
          rcases h with h | h
          · obtain ⟨a, ha⟩ := Option.ne_none_iff_exists'.mp h
            exact .inl (lookup_isSome.mp ⟨a, ha⟩)
          · obtain ⟨a, ha⟩ := Option.ne_none_iff_exists'.mp h
            exact .inr (lookup_isSome.mp ⟨a, ha⟩)
        refine acc_dict acc his.1 fun x hx => ?_
        exact k x (stL xs) _ (sameU sn hx) (sn.free hx) (acc_st acc hx) his
end
end KW
/-! KwD7: pairs_come_to. -/
namespace KW
open PySem PySem.Spec PyProof.Rows L2
abbrev sPairs : Stmt := top 29
/-- an entry of what was found: the pair, its steps' dict (made behind H0) -/
def FRel (K : PySem.W.Frag) (H0 H : Hp) (e : NE) (y : PK × Steps) : Prop := e.1 = y.1 ∧ ∃ a, e.2.2 = .ref a ∧ H0 a = none ∧ StAt K H a y.2
/-- the dict of all pairs found, at d -/
def FAt (P : Program) (w : World) (K : PySem.W.Frag) (H0 H : Hp) (d : Addr) (F : FoundL) : Prop := H0 d = none ∧ ∃ es, ND P w K H d es ∧ Paired (FRel K H0 H) es F
theorem upd_comm {H : Hp} {a b : Addr} {o u : HO} (h : a ≠ b) : upd (upd H a o) b u = upd (upd H b u) a o := by
  funext c
  by_cases h1 : c = a
  · subst h1
    rw [upd_ne h, upd_same, upd_same]
  · by_cases h2 : c = b
    · subst h2
      rw [upd_same, upd_ne h1, upd_same]
    · rw [upd_ne h2, upd_ne h1, upd_ne h1, upd_ne h2]
theorem upd_id {H : Hp} {a : Addr} {o : HO} (h : H a = some o) : upd H a o = H := by
  funext c
  unfold upd
  by_cases e : c = a
  · rw [if_pos e, e, h]
  · rw [if_neg e]
/-- unlocked at ra: what holds there holds of tuples in the locked heap, and back -/
theorem sqT_un {K : PySem.W.Frag} {H : Hp} {a ra : Addr} {xs : List V} {kvs : List (Key × V)} (h : SqT K (upd H ra (.dK kvs)) a xs) : SqT K H a xs := by
  rcases h with (h | ⟨o, h⟩) | h
  · have ne : a ≠ ra := fun q => by
      rw [q, upd_same] at h
      cases h
    rw [upd_ne ne] at h
    exact .inl (.inl h)
  · have ne : a ≠ ra := fun q => by
      rw [q, upd_same] at h
      cases h
    rw [upd_ne ne] at h
    exact .inl (.inr ⟨o, h⟩)
  · exact .inr h
theorem sqT_lk {K : PySem.W.Frag} {H : Hp} {a ra : Addr} {xs : List V} {kvs : List (Key × V)} {od : Obj} (hr : H ra = some (.frz od (.dK kvs))) (h : SqT K H a xs) : SqT K (upd H ra (.dK kvs)) a xs := by
  rcases h with (h | ⟨o, h⟩) | h
  · have ne : a ≠ ra := fun q => by rw [q, hr] at h; cases h
    exact .inl (.inl (by rw [upd_ne ne]; exact h))
  · have ne : a ≠ ra := fun q => by rw [q, hr] at h; cases h
    exact .inl (.inr ⟨o, by rw [upd_ne ne]; exact h⟩)
  · exact .inr h
theorem same_un {H H' : Hp} {ra : Addr} {u : HO} (s : Same H H') : Same (upd H ra u) (upd H' ra u) := fun b o e => by
  by_cases h : b = ra
  · subst h
    rw [upd_same] at e ⊢
    exact e
  · rw [upd_ne h] at e ⊢
    exact s b o e
theorem FRel.keep {K : PySem.W.Frag} {H0 H H' : Hp} {e : NE} {y : PK × Steps} (h : FRel K H0 H e y) (k1 : ∀ a kvs, H a = some (.dK kvs) → H' a = some (.dK kvs)) (k2 : ∀ a xs, SqT K H a xs → SqT K H' a xs) : FRel K H0 H' e y := by
  obtain ⟨h1, a, h2, h3, h4⟩ := h
  exact ⟨h1, a, h2, h3, h4.keep (fun kvs q => k1 a kvs q) k2⟩
theorem FAt.same {P : Program} {w : World} {K : PySem.W.Frag} {H0 H H' : Hp} {d : Addr} {F : FoundL} (h : FAt P w K H0 H d F) (s : Same H H') : FAt P w K H0 H' d F := by
  obtain ⟨h0, es, h1, h2⟩ := h
  exact ⟨h0, es, h1.same s, paired_mono (fun e y q => q.keep (fun a kvs z => s _ _ z) fun _ _ => sqT_same s) h2⟩
theorem frel_keys {K : PySem.W.Frag} {H0 H : Hp} {es : List NE} {F : FoundL} (h : Paired (FRel K H0 H) es F) : es.map (·.1) = F.map (·.1) := by
  induction h with
  | nil => rfl
  | cons r t ih => rw [List.map_cons, List.map_cons, ih, r.1]
/-- the search's heap (no row locked) -/
structure PB (P : Program) (w : World) (K : PySem.W.Frag) (H H' : Hp) (d wl : Addr) (F : FoundL) (es : List NE) (ws : List Addr) : Prop where
  same : Same H H'
  nd : ND P w K H' d es
  rel : Paired (FRel K H H') es F
  wt : H' wl = some (.lst (ws.map V.ref))
  ww : Paired (fun a (y : PK × Steps) => PairAt K H' a y.1) ws F
section
variable {P : Program} {w : World} {K : PySem.W.Frag} {H H' H2 : Hp} {d wl : Addr} {F : FoundL} {es : List NE} {ws : List Addr}
theorem PB.up (h : PB P w K H H' d wl F es ws) (s : Same H' H2) : PB P w K H H2 d wl F es ws :=
  ⟨h.same.trans s, h.nd.same s, paired_mono (fun e y q => q.keep (fun a kvs z => s _ _ z) fun _ _ => sqT_same s) h.rel, s _ _ h.wt, paired_mono (fun a (y : PK × Steps) q => sqT_same (a := a) (xs := pkV y.1) s q) h.ww⟩
theorem PB.len (h : PB P w K H H' d wl F es ws) : ws.length = F.length ∧ es.length = F.length := ⟨Paired.length h.ww, Paired.length h.rel⟩
theorem PB.keys (h : PB P w K H H' d wl F es ws) : es.map (·.1) = F.map (·.1) := frel_keys h.rel
theorem PB.push (h : PB P w K H H' d wl F es ws) (nd : H d = none) (nw : H wl = none) {q : PK} {pb x : Addr} {L : Steps} (hp : PairAt K H' pb q) (hx : StAt K H' x L) (nx : H x = none) (hq : q ∉ F.map (·.1)) :
    PB P w K H (upd (upd H' d (NO P w d (putN es q pb (.ref x)))) wl (.lst (ws.map V.ref ++ [.ref pb]))) d wl (F ++ [(q, L)]) (es ++ [(q, pb, .ref x)]) (ws ++ [pb]) := by
  have hdw : d ≠ wl := ne_of h.nd.at_ h.wt (fun z => nomatch z)
  have ep : putN es q pb (.ref x) = es ++ [(q, pb, .ref x)] := putN_new (by rw [h.keys]; exact hq)
  have hw2 : upd H' d (NO P w d (putN es q pb (.ref x))) wl = some (.lst (ws.map V.ref)) := by rw [upd_ne hdw.symm]; exact h.wt
  have kt : ∀ a xs, SqT K H' a xs → SqT K (upd (upd H' d (NO P w d (putN es q pb (.ref x)))) wl (.lst (ws.map V.ref ++ [.ref pb]))) a xs := fun a xs q => sqT_put hw2 trivial (sqT_put h.nd.at_ trivial q)
  have kd : ∀ a kvs, H' a = some (.dK kvs) → upd (upd H' d (NO P w d (putN es q pb (.ref x)))) wl (.lst (ws.map V.ref ++ [.ref pb])) a = some (.dK kvs) := fun a kvs e => by
    rw [upd_ne (ne_of e h.wt (fun z => nomatch z)), upd_ne (ne_of e h.nd.at_ (fun z => nomatch z))]
    exact e
  refine ⟨sameP (sameP h.same nd) nw, ⟨?_, fun e he => ?_⟩, ?_, ?_, ?_⟩
  · rw [upd_ne hdw, upd_same, ep]
  · rcases List.mem_append.mp he with he | he
    · exact kt _ _ (h.nd.keys e he)
    · have e' : e = (q, pb, .ref x) := by simpa using he
      subst e'
      exact kt _ _ hp
  · exact paired_snoc ⟨rfl, x, rfl, nx, hx.keep (fun kvs z => kd _ _ z) kt⟩ (paired_mono (fun e y r => r.keep kd kt) h.rel)
  · rw [upd_same, List.map_append]
    rfl
  · exact paired_snoc (R := fun a (y : PK × Steps) => PairAt K _ a y.1) (kt _ _ hp) (paired_mono (fun a (y : PK × Steps) r => kt a (pkV y.1) r) h.ww)
end
def spPairs (P : Program) (w : World) (K : PySem.W.Frag) (mg : Str → Option Value) (base : Heap) : Sp := fun vs H Q _ => ∃ (f l m : Addr) (dd : Tab → Tab → PK → Nat → Option PK) (T U : Tab), vs = [.ref f, .ref l, .ref m] ∧ Held P w K mg base 2 f (spSt K dd) ∧
  TabAt H l T ∧ TabAt H m U ∧ WF T ∧ WF U ∧ T.length ≤ 1000 ∧ U.length ≤ 1000 ∧ (∀ p, Reach (dd T U) pk0 p → p ∈ univ T U) ∧ ∀ x F H', Same H H' → FAt P w K H H' x F → Found (dd T U) F → F.length ≤ (T.length + 1) * (U.length + 1) → Q (.ref x) H'
/-- behind each turn -/
def PInv (P : Program) (w : World) (K : PySem.W.Frag) (H : Hp) (f l m d wl : Addr) (dn : PK → Nat → Option PK) (at_ : Nat) (σ : L2.St) (H' : Hp) : Prop :=
  ∃ (F : FoundL) (es : List NE) (ws : List Addr) (v6 v7 : Option V), at_ ≤ F.length ∧ σ = [some (.ref f), some (.ref l), some (.ref m), some (.ref d), some (.ref wl), some (.int (at_ : Nat)), v6, v7] ∧ PB P w K H H' d wl F es ws ∧ FI dn F at_ 0
section
variable {P : Program} {w : World} {K : PySem.W.Frag} {mg : Str → Option Value} {base : Heap} {C : Addr}
theorem scPairs : FnScope ["steps", "table", "other", "found", "waiting", "at", "row", "pair"] ["steps", "table", "other"] (defScope sPairs) := ⟨rfl, rfl, rfl, by decide +kernel, rfl, by decide +kernel, by decide +kernel⟩
theorem ok_pairs {f : Addr} {fd : FuncData} (F : Fun K "pairs_come_to" "pairs_come_to" sPairs f fd) (TT : TX K mg) : FnOk P w K mg base CX0 3 f fd ["steps", "table", "other"] (spPairs P w K mg base) := by
  refine F.ok scPairs (fun vs H Q E h => ?_) (fun cdv A outer s H vs Q E hr h => ?_)
  · obtain ⟨g, l, m, dd, T, U, rfl, _⟩ := h
    rfl
  · obtain ⟨g, l, m, dd, T, U, rfl, ⟨gd, ps, G, hkG, hbG⟩, hT, hU, wT, wU, lT, lU, huni, k⟩ := h
    have hu := hu_of hr
    obtain ⟨tf, hmF, hF⟩ := TT.first
    refine ⟨_, pss_cons (ps_set (i := 3) scPairs.nd rfl (Or.inl rfl) (pe_ndisp hu (pe_glob (v := .ref tf) (by rfl) hmF rfl) (pe_callL (i := 0) G hr rfl (Or.inl rfl) hkG hbG .nil pass0 (pa_cons (pv 1) (pa_cons (pv 2) (pa_cons (pe_glob (v := .ref tf) (by rfl) hmF rfl) pa_nil))))))
      (pss_cons (ps_set (i := 4) scPairs.nd rfl (Or.inl rfl) (pe_lst (pa_cons (pe_glob (v := .ref tf) (by rfl) hmF rfl) pa_nil)))
      (pss_cons (ps_set (i := 5) scPairs.nd rfl (Or.inl rfl) pe_int)
      (pss_cons (ps_while PassesOwn.never (pt_cmpR op_lt (pv 5) (pe_callB call_len_seq (by rfl) TT.len PySem.boot_len (pa_cons (pv 4) pa_nil)) (nomark _))
        (pss_cons (ps_set (i := 6) scPairs.nd rfl (Or.inl rfl) (pe_nget hu (pv 3) (pe_ix ix_list (pv 4) (pv 5) (fun _ _ => rfl)) (fun _ _ => rfl)))
        (pss_cons (ps_lock (ps_for PassesOwn.never rfl (pi_values (pv 6)) (pg_name (i := 7) scPairs.nd rfl (Or.inl rfl))
          (pss_one (ps_if (pt_cmp (pc_nnotin hu (pv 7) (pv 3)))
            (pss_cons (ps_nput hu (pv 3) (pv 7) (pe_callL (i := 0) G hr rfl (Or.inl rfl) hkG hbG .nil pass0 (pa_cons (pv 1) (pa_cons (pv 2) (pa_cons (pv 7) pa_nil)))) rfl)
              (pss_one (ps_expr (pe_bm PySem.F.plainAttrs_list PySem.F.slot_list_append PySem.F.type_list_append mt_append (pv 4) (pa_cons (pv 7) pa_nil))))) pss_nil))))
        (pss_one (ps_set (i := 5) scPairs.nd rfl (Or.inl rfl) (pe_op op_add (pv 5) pe_int))))))
      (pss_one (ps_ret (pv 3)))))), ?_⟩
    -- found = {FIRST_PAIR: steps(..)}
    intro d nd
    have sd := same_upd nd (o := NO P w d [])
    refine ⟨rfl, _, rfl, _, rfl, l, m, tf, T, U, pk0, rfl, hT.same sd, hU.same sd, wT, wU, hF _, Reach.refl _ _, fun x0 L0 H1 s1 nx0 hx0 is0 => ?_⟩
    refine ⟨s1 _ _ upd_same, tf, pk0, rfl, hF _, ?_⟩
    refine ⟨by show 1 ≤ sizeLine; decide, fun wl nwl => ?_⟩
    have hd1 : H1 d = some (NO P w d []) := s1 _ _ upd_same
    have hdw : d ≠ wl := fun z => by rw [← z, upd_same] at nwl; cases nwl
    have nwl1 : H1 wl = none := by rw [upd_ne hdw.symm] at nwl; exact nwl
    have nw : H wl = none := (sd.trans s1).free nwl1
    have hdx : x0 ≠ d := fun z => by rw [z, upd_same] at nx0; cases nx0
    have nx : H x0 = none := by rw [upd_ne hdx] at nx0; exact nx0
    have B0 : PB P w K H (upd (upd H1 d (NO P w d [(pk0, tf, .ref x0)])) wl (.lst [.ref tf])) d wl [(pk0, L0)] [(pk0, tf, .ref x0)] [tf] := by
      refine ⟨sameU (sameP (sd.trans s1) nd) nwl, ⟨by rw [upd_ne hdw, upd_same], fun e he => ?_⟩, .cons ⟨rfl, x0, rfl, nx, ?_⟩ .nil, by rw [upd_same]; rfl, .cons (hF _) .nil⟩
      · have e' : e = (pk0, tf, .ref x0) := by simpa using he
        subst e'
        exact hF _
      · refine (StAt.keep hx0 (fun kvs z => ?_) fun a xs z => sqT_put hd1 trivial z : StAt K (upd H1 d (NO P w d [(pk0, tf, .ref x0)])) x0 L0).same (same_upd nwl)
        rw [upd_ne hdx]
        exact z
    have I0 : FI (dd T U) [(pk0, L0)] 0 0 := FI.start is0
    refine ⟨fun mm σ H' => ∃ at_ : Nat, mm = 1002002 - at_ ∧ PInv P w K H g l m d wl (dd T U) at_ σ H', ⟨_, 0, rfl, _, _, _, none, none, Nat.zero_le _, rfl, B0, I0⟩, ?_⟩
    clear B0 I0
    rintro mm σ H2 ⟨at_, rfl, F, es, ws, v6, v7, hat, rfl, B, I⟩
    have wlen : (ws.map V.ref).length = F.length := by rw [List.length_map]; exact B.len.1
    have hmany : F.length ≤ 1002001 := by
      have := I.len huni
      rw [univ_len] at this
      exact Nat.le_trans this (Nat.mul_le_mul (Nat.succ_le_succ lT) (Nat.succ_le_succ lU))
    refine ⟨_, rfl, _, rfl, wl, _, rfl, .inl (SqL.of B.wt), _, _, rfl, rfl, _, rfl, ite2 (fun hlt => ?_) (fun hge => ?_)⟩
    · have hlt' : at_ < F.length := by
        have := of_decide_eq_true hlt
        rw [wlen] at this
        omega
      refine ⟨fun σ' H' => PInv P w K H g l m d wl (dd T U) (at_ + 1) σ' H', fun σ' H' q => ⟨1002002 - (at_ + 1), by omega, at_ + 1, rfl, q⟩, ?_⟩
      obtain ⟨y, hy⟩ : ∃ y, F[at_]? = some y := ⟨F[at_], List.getElem?_eq_getElem hlt'⟩
      obtain ⟨a, ha, hpa⟩ := paired_get' B.ww hy
      obtain ⟨e, he, hey, ra, era, nra, xs, exs, hra, hxs⟩ := paired_get' B.rel hy
      have haw : (ws.map V.ref)[at_]? = some (.ref a) := by rw [List.getElem?_map, ha]; rfl
      have hval : valN es y.1 = some (.ref ra) := by
        rw [← hey, ← era]
        exact valN_mem (by rw [B.keys]; exact I.nodup) (List.mem_of_getElem? he)
      refine ⟨_, rfl, _, rfl, _, rfl, wl, _, _, _, rfl, rfl, SqL.of B.wt, atI_nat haw, d, es, a, y.1, _, rfl, B.nd, rfl, hpa, hval, ?_⟩
      refine ⟨ra, _, hra, trivial, fun od => ⟨_, rfl, ra, od, stD xs, rfl, upd_same, ?_⟩⟩
      have hlx : (stD xs).length = y.2.length := by rw [← exs]; simp [stD, stL]
      refine for_it walk_values (fun n σ H' => ∃ (F : FoundL) (es : List NE) (ws : List Addr) (v7 : Option V), σ = [some (.ref g), some (.ref l), some (.ref m), some (.ref d), some (.ref wl), some (.int (at_ : Nat)), some (.ref ra), v7] ∧ H' ra = some (.frz od (.dK (stD xs))) ∧
        PB P w K H (upd H' ra (.dK (stD xs))) d wl F es ws ∧ FI (dd T U) F at_ n ∧ F[at_]? = some y ∧ ∀ z ∈ xs, PairAt K (upd H' ra (.dK (stD xs))) z.2.2 z.2.1)
        ⟨F, es, ws, v7, rfl, upd_same, ?_, I, hy, ?_⟩ (fun n σ H' _ ⟨_, _, _, _, _, q, _⟩ => q) ?_ ?_
      · rw [upd_upd, upd_id hra]
        exact B
      · rw [upd_upd, upd_id hra]
        exact hxs
      · clear B I hy haw ha he hlt' hat hlt hmany hval wlen hxs hra hpa
        rintro n x σ H3 H3' hn ⟨F, es, ws, v7, rfl, hfz, B, I, hy, hxs⟩ ⟨rfl, kk, ekx⟩
        have hn' : n < xs.length := by simpa [stD] using hn
        have exn : xs[n]? = some xs[n] := List.getElem?_eq_getElem hn'
        generalize xs[n] = z at exn
        obtain ⟨c, q, pb⟩ := z
        have hz := hxs _ (List.mem_of_getElem? exn)
        have ekx' : (stD xs)[n]? = some (Sum.inr (lt c), V.ref pb) := by unfold stD; rw [List.getElem?_map, exn]; rfl
        rw [ekx'] at ekx
        cases ekx
        have hyn : y.2[n]? = some (c, q) := by rw [← exs]; unfold stL; rw [List.getElem?_map, exn]; rfl
        have hdra : d ≠ ra := fun z => by
          have := B.nd.at_
          rw [z, upd_same] at this
          cases this
        have hwra : wl ≠ ra := fun z => by
          have := B.wt
          rw [z, upd_same] at this
          cases this
        have nd3 : ND P w K H3' d es := ⟨by have := B.nd.at_; rw [upd_ne hdra] at this; exact this, fun e he => sqT_un (B.nd.keys e he)⟩
        refine ⟨_, rfl, _, rfl, d, es, pb, q, rfl, nd3, rfl, sqT_un hz, _, rfl, ?_⟩
        have hmany : F.length ≤ 1002001 := by
          have := I.len huni
          rw [univ_len] at this
          exact Nat.le_trans this (Nat.mul_le_mul (Nat.succ_le_succ lT) (Nat.succ_le_succ lU))
        by_cases hin : q ∈ F.map (·.1)
        · have e : (valN es q).isSome = true := valN_keys.mpr (by rw [B.keys]; exact hin)
          rw [e]
          exact iteF ⟨F, es, ws, _, rfl, hfz, B, I.old hy hyn hin, hy, hxs⟩
        · have e : (valN es q).isSome = false := by
            rw [Bool.eq_false_iff]
            intro z
            have := valN_keys.mp z
            rw [B.keys] at this
            exact hin this
          rw [e]
          have sL : Same H H3' := fun b o q => by
            have hb : b ≠ ra := fun z => by rw [z, nra] at q; cases q
            have := B.same b o q
            rw [upd_ne hb] at this
            exact this
          have hreach : Reach (dd T U) pk0 q := (I.reach y (List.mem_of_getElem? hy)).step (((I.steps y (List.mem_of_getElem? hy)).2 c q).mp (List.mem_of_getElem? hyn))
          refine iteT ⟨rfl, _, rfl, _, rfl, _, rfl, l, m, pb, T, U, q, rfl, hT.same sL, hU.same sL, wT, wU, sqT_un hz, hreach, fun x L H4 s4 nx4 hx4 is4 => ?_⟩
          have hfz4 : H4 ra = some (.frz od (.dK (stD xs))) := s4 _ _ hfz
          have B4 := B.up (same_un (ra := ra) (u := .dK (stD xs)) s4)
          have hxra : x ≠ ra := fun z => by rw [z, hfz] at nx4; cases nx4
          have hx4' : StAt K (upd H4 ra (.dK (stD xs))) x L := hx4.keep (fun kvs z => by rw [upd_ne hxra]; exact z) fun a xs z => sqT_lk hfz4 z
          have hz4 : PairAt K (upd H4 ra (.dK (stD xs))) pb q := sqT_same (same_un s4) hz
          refine ⟨_, rfl, _, rfl, d, es, pb, q, rfl, nd3.same s4, rfl, sqT_un hz4, by have := B4.len.2; have : sizeLine = 16777216 := sizeLine_eq; omega, ?_⟩
          have hdw2 : d ≠ wl := ne_of B4.nd.at_ B4.wt (fun z => nomatch z)
          have hw4 : H4 wl = some (.lst (ws.map V.ref)) := by have := B4.wt; rw [upd_ne hwra] at this; exact this
          refine ⟨_, rfl, .inl ⟨rfl, _, SqL.of (by rw [upd_ne hdw2.symm]; exact hw4)⟩, _, rfl, wl, _, _, rfl, rfl, (by rw [upd_ne hdw2.symm]; exact hw4), by rw [List.length_map]; have := B4.len.1; have : sizeLine = 16777216 := sizeLine_eq; omega, ?_⟩
          have B5 := B4.push nd nw hz4 hx4' (sL.free nx4) hin
          have eU : upd (upd (upd H4 d (NO P w d (putN es q pb (.ref x)))) wl (.lst (ws.map V.ref ++ [.ref pb]))) ra (.dK (stD xs)) = upd (upd (upd H4 ra (.dK (stD xs))) d (NO P w d (putN es q pb (.ref x)))) wl (.lst (ws.map V.ref ++ [.ref pb])) := by
            rw [upd_comm hwra, upd_comm hdra]
          have B5' : PB P w K H (upd (upd (upd H4 d (NO P w d (putN es q pb (.ref x)))) wl (.lst (ws.map V.ref ++ [.ref pb]))) ra (.dK (stD xs))) d wl (F ++ [(q, L)]) (es ++ [(q, pb, .ref x)]) (ws ++ [pb]) := by rw [eU]; exact B5
          refine ⟨F ++ [(q, L)], es ++ [(q, pb, V.ref x)], ws ++ [pb], some (V.ref pb), rfl, by rw [upd_ne hwra.symm, upd_ne hdra.symm]; exact hfz4, B5', I.new hy hyn hin is4, by rw [List.getElem?_append_left (List.getElem?_eq_some_iff.mp hy).1]; exact hy, ?_⟩
          · have hlk : ∀ a xs', SqT K (upd H4 ra (.dK (stD xs))) a xs' → SqT K (upd (upd (upd H4 ra (.dK (stD xs))) d (NO P w d (putN es q pb (.ref x)))) wl (.lst (ws.map V.ref ++ [.ref pb]))) a xs' := fun a xs' z => sqT_put (o := .lst (ws.map V.ref)) (by rw [upd_ne hdw2.symm]; exact B4.wt) trivial (sqT_put B4.nd.at_ trivial z)
            intro z hzm
            have h1 := hlk _ _ (sqT_same (same_un s4) (hxs z hzm))
            rw [← eU] at h1
            exact h1
      · rintro σ H3 ⟨F, es, ws, v7, rfl, hfz, B, I, hy, hxs⟩
        refine ⟨hfz, _, rfl, _, _, rfl, rfl, F, es, ws, _, _, (List.getElem?_eq_some_iff.mp hy).1, rfl, B, I.turn fun z hz => ?_⟩
        rw [hy] at hz
        cases hz
        rw [hlx]
        exact Nat.le_refl _
    · have hge' : F.length ≤ at_ := by
        have : ¬ ((at_ : Int) < ((ws.map V.ref).length : Nat)) := fun q => hge (decide_eq_true q)
        rw [wlen] at this
        omega
      exact ⟨_, rfl, k d F H2 B.same ⟨nd, es, B.nd, B.rel⟩ (I.done hge') (by have := I.len huni; rw [univ_len] at this; exact this)⟩
end
end KW
/-! KwD8: ways_on. -/
namespace KW
open PySem PySem.Spec PyProof.Rows L2
abbrev sWays : Stmt := top 30
def tNGetK (P : Program) (w : World) (K : PySem.W.Frag) (td ty : TE) : TE := fun σ H Q => td σ H fun x H1 => ty σ H1 fun y H2 => ∃ d es b p v, x = .ref d ∧ ND P w K H2 d es ∧ y = .ref b ∧ PairAt K H2 b p ∧ valN es p = some v ∧ Q v H2
theorem pe_ngetK {X : Cx} {P : Program} {w : World} {K : PySem.W.Frag} {td ty : TE} {o i : Expr} {pos : Pos} (hu : X.A.units + 1 < cLine) (ho : PE X o td) (hi : PE X i ty) (hs : NoSl i) (hP : X.prog = P := by rfl) (hw : X.w = w := by rfl) (hK : X.K = K := by rfl) :
    PE X (.Subscript o i pos) (tNGetK P w K td ty) := by
  subst hP hw hK
  exact pe_nget hu ho hi hs
theorem walk_keysN {P : Program} {w : World} {d : Addr} {o : Obj} {es : List NE} : Walk (ItkN P w d o es) es.length (fun H => H d = some (.frz o (NO P w d es))) (fun i H x H' => H' = H ∧ ∃ e, es[i]? = some e ∧ x = .ref e.2.1) :=
  ⟨fun _ _ hi q => ⟨q, hi⟩, fun _ q => ⟨q, Nat.le_refl _⟩, fun _ _ _ _ _ _ y => y⟩
theorem walk_itemsN {P : Program} {w : World} {d : Addr} {o : Obj} {es : List NE} : Walk (ItiN P w d o es) es.length (fun H => H d = some (.frz o (NO P w d es))) (fun i H x H' => ∃ T e, es[i]? = some e ∧ x = .ref T ∧ H T = none ∧ H' = upd H T (.tup [.ref e.2.1, e.2.2])) :=
  ⟨fun _ _ hi q => ⟨q, hi⟩, fun _ q => ⟨q, Nat.le_refl _⟩, fun _ _ _ _ _ _ y => y⟩
/-- tuples stay where all but the places in S is as it was, and what was in S could change -/
theorem sqT_but {K : PySem.W.Frag} {H H' : Hp} {S : Addr → Prop} (k : ∀ b o, ¬ S b → H b = some o → H' b = some o) (mu : ∀ b, S b → Mut (H b)) {a : Addr} {xs : List V} (h : SqT K H a xs) : SqT K H' a xs := by
  rcases h with (h | ⟨o, h⟩) | h
  · exact .inl (.inl (k _ _ (fun q => by have := mu _ q; rw [h] at this; exact this) h))
  · exact .inl (.inr ⟨o, k _ _ (fun q => by have := mu _ q; rw [h] at this; exact this) h⟩)
  · exact .inr h
/-- the two dicts in the making: many at dm, into at di -/
structure WB (P : Program) (w : World) (K : PySem.W.Frag) (H0 H' : Hp) (dm di : Addr) (keys : List PK) (ms is : List NE) (M : PK → Int) (G : PK → List PK) : Prop where
  nm : H0 dm = none
  ni : H0 di = none
  ne : dm ≠ di
  ndm : ND P w K H' dm ms
  ndi : ND P w K H' di is
  mkeys : ms.map (·.1) = keys
  mval : ∀ e ∈ ms, e.2.2 = .int (M e.1)
  ival : ∀ e ∈ is, ∃ a ps, e.2.2 = .ref a ∧ H0 a = none ∧ H' a = some (.lst (ps.map V.ref)) ∧ Paired (fun b p => PairAt K H' b p) ps (G e.1)
  iinj : ∀ e ∈ is, ∀ e' ∈ is, e.2.2 = e'.2.2 → e.1 = e'.1
  inil : ∀ p, p ∉ is.map (·.1) → G p = []
  inod : (is.map (·.1)).Nodup
section
variable {P : Program} {w : World} {K : PySem.W.Frag} {H0 H' H2 : Hp} {dm di : Addr} {keys : List PK} {ms is : List NE} {M : PK → Int} {G : PK → List PK}
theorem WB.up (h : WB P w K H0 H' dm di keys ms is M G) (s : Same H' H2) : WB P w K H0 H2 dm di keys ms is M G :=
  ⟨h.nm, h.ni, h.ne, h.ndm.same s, h.ndi.same s, h.mkeys, h.mval, fun e he => let ⟨a, ps, h1, h2, h3, h4⟩ := h.ival e he; ⟨a, ps, h1, h2, s _ _ h3, paired_mono (fun b p q => sqT_same s q) h4⟩, h.iinj, h.inil, h.inod⟩
/-- many[p] = n, p new -/
theorem WB.many (h : WB P w K H0 H' dm di keys ms is M G) {p : PK} {b : Addr} {n : Int} (hb : PairAt K H' b p) (hp : p ∉ keys) (hn : M p = n) : WB P w K H0 (upd H' dm (NO P w dm (putN ms p b (.int n)))) dm di (keys ++ [p]) (putN ms p b (.int n)) is M G := by
  have kt : ∀ a xs, SqT K H' a xs → SqT K (upd H' dm (NO P w dm (putN ms p b (.int n)))) a xs := fun a xs q => sqT_put h.ndm.at_ trivial q
  have ep : putN ms p b (.int n) = ms ++ [(p, b, .int n)] := putN_new (by rw [h.mkeys]; exact hp)
  refine ⟨h.nm, h.ni, h.ne, ⟨upd_same, fun e he => ?_⟩, ⟨by rw [upd_ne h.ne.symm]; exact h.ndi.at_, fun e he => kt _ _ (h.ndi.keys e he)⟩, by rw [ep, List.map_append, h.mkeys]; rfl, fun e he => ?_, fun e he => ?_, h.iinj, h.inil, h.inod⟩
  · rw [ep] at he
    rcases List.mem_append.mp he with he | he
    · exact kt _ _ (h.ndm.keys e he)
    · have e' : e = (p, b, .int n) := by simpa using he
      subst e'
      exact kt _ _ hb
  · rw [ep] at he
    rcases List.mem_append.mp he with he | he
    · exact h.mval e he
    · have e' : e = (p, b, .int n) := by simpa using he
      subst e'
      show V.int n = V.int (M p)
      rw [hn]
  · obtain ⟨a, ps, h1, h2, h3, h4⟩ := h.ival e he
    exact ⟨a, ps, h1, h2, by rw [upd_ne (ne_of h3 h.ndm.at_ (fun z => nomatch z))]; exact h3, paired_mono (fun b p q => kt _ _ q) h4⟩
/-- G with q at p's end -/
def addG (G : PK → List PK) (p q : PK) : PK → List PK := fun x => if x = p then G p ++ [q] else G x
theorem paired_congr {A B : Type} {R : A → B → Prop} {l : List A} {m m' : List B} (h : Paired R l m) (e : m = m') : Paired R l m' := e ▸ h
/-- into[p].append(q): p was in -/
theorem WB.addOld (h : WB P w K H0 H' dm di keys ms is M G) {p q : PK} {b a : Addr} (hb : PairAt K H' b q) (ha : valN is p = some (.ref a)) : ∃ ps : List Addr, H' a = some (.lst (ps.map V.ref)) ∧ ps.length = (G p).length ∧ H0 a = none ∧
    WB P w K H0 (upd H' a (.lst (ps.map V.ref ++ [.ref b]))) dm di keys ms is M (addG G p q) := by
  obtain ⟨e0, he0, ep, ev⟩ := valN_some ha
  obtain ⟨a', ps, h1, h2, h3, h4⟩ := h.ival e0 he0
  rw [ev] at h1
  cases h1
  have kt : ∀ x xs, SqT K H' x xs → SqT K (upd H' a (.lst (ps.map V.ref ++ [.ref b]))) x xs := fun x xs q => sqT_put h3 trivial q
  have hdm : dm ≠ a := ne_of h.ndm.at_ h3 (fun z => nomatch z)
  have hdi : di ≠ a := ne_of h.ndi.at_ h3 (fun z => nomatch z)
  rw [ep] at h4
  refine ⟨ps, h3, Paired.length h4, h2, h.nm, h.ni, h.ne, ⟨by rw [upd_ne hdm]; exact h.ndm.at_, fun e he => kt _ _ (h.ndm.keys e he)⟩, ⟨by rw [upd_ne hdi]; exact h.ndi.at_, fun e he => kt _ _ (h.ndi.keys e he)⟩, h.mkeys, h.mval, fun e he => ?_, h.iinj, fun x hx => ?_, h.inod⟩
  · by_cases hx : e.1 = p
    · have hv : e.2.2 = .ref a := by
        have := valN_mem h.inod he
        rw [hx, ha] at this
        exact (Option.some.inj this).symm
      refine ⟨a, ps ++ [b], hv, h2, by rw [upd_same, List.map_append]; rfl, paired_congr (paired_snoc (R := fun b p => PairAt K _ b p) (kt _ _ hb) (paired_mono (fun b p q => kt _ _ q) h4)) ?_⟩
      unfold addG
      rw [if_pos hx]
    · obtain ⟨a2, ps2, g1, g2, g3, g4⟩ := h.ival e he
      have hne : a2 ≠ a := fun z => hx (by
        have := h.iinj e he e0 he0 (by rw [g1, ev, z])
        rw [this, ep])
      refine ⟨a2, ps2, g1, g2, by rw [upd_ne hne]; exact g3, paired_congr (paired_mono (fun b p q => kt _ _ q) g4) ?_⟩
      unfold addG
      rw [if_neg hx]
  · unfold addG
    have hxp : x ≠ p := fun z => by
      refine hx (List.mem_map.mpr ⟨e0, he0, ?_⟩)
      rw [ep, z]
    rw [if_neg hxp]
    exact h.inil x hx
/-- into.setdefault(p, []).append(q): p was not in; a the new list -/
theorem WB.addNew (h : WB P w K H0 H' dm di keys ms is M G) (ks : ∀ b o, H0 b = some o → b ≠ dm ∧ b ≠ di) {p q : PK} {b bp a : Addr} (hb : PairAt K H' b q) (hbp : PairAt K H' bp p) (ha : valN is p = none) (na : H' a = none) (na0 : H0 a = none) :
    WB P w K H0 (upd (upd (upd H' a (.lst [])) di (NO P w di (putN is p bp (.ref a)))) a (.lst [.ref b])) dm di keys ms (putN is p bp (.ref a)) M (addG G p q) := by
  have hp := valN_none.mp ha
  have ep : putN is p bp (.ref a) = is ++ [(p, bp, .ref a)] := putN_new hp
  have hda : di ≠ a := ne_of_none h.ndi.at_ na
  have hma : dm ≠ a := ne_of_none h.ndm.at_ na
  have s1 := same_upd na (o := .lst [])
  have kt : ∀ x xs, SqT K H' x xs → SqT K (upd (upd (upd H' a (.lst [])) di (NO P w di (putN is p bp (.ref a)))) a (.lst [.ref b])) x xs := fun x xs q =>
    sqT_put (o := .lst []) (by rw [upd_ne hda.symm, upd_same]) trivial (sqT_put (s1 _ _ h.ndi.at_) trivial (sqT_same s1 q))
  have kl : ∀ x l, H' x = some (.lst l) → upd (upd (upd H' a (.lst [])) di (NO P w di (putN is p bp (.ref a)))) a (.lst [.ref b]) x = some (.lst l) := fun x l e => by
    have h1 := ne_of_none e na
    rw [upd_ne h1, upd_ne (ne_of e h.ndi.at_ (fun z => nomatch z)), upd_ne h1]
    exact e
  refine ⟨h.nm, h.ni, h.ne, ⟨by rw [upd_ne hma, upd_ne h.ne, upd_ne hma]; exact h.ndm.at_, fun e he => kt _ _ (h.ndm.keys e he)⟩, ⟨by rw [upd_ne hda, upd_same], fun e he => ?_⟩, h.mkeys, h.mval, fun e he => ?_, fun e he e' he' q => ?_, fun x hx => ?_, putN_nodup h.inod⟩
  · rw [ep] at he
    rcases List.mem_append.mp he with he | he
    · exact kt _ _ (h.ndi.keys e he)
    · have e' : e = (p, bp, .ref a) := by simpa using he
      subst e'
      exact kt _ _ hbp
  · rw [ep] at he
    rcases List.mem_append.mp he with he | he
    · obtain ⟨a2, ps2, g1, g2, g3, g4⟩ := h.ival e he
      have hx : e.1 ≠ p := fun z => hp (List.mem_map.mpr ⟨e, he, z⟩)
      refine ⟨a2, ps2, g1, g2, kl _ _ g3, paired_congr (paired_mono (fun b p q => kt _ _ q) g4) ?_⟩
      unfold addG
      rw [if_neg hx]
    · have e' : e = (p, bp, .ref a) := by simpa using he
      subst e'
      refine ⟨a, [b], rfl, na0, by rw [upd_same]; rfl, paired_congr (Paired.cons (F := fun b p => PairAt K _ b p) (kt _ _ hb) .nil) ?_⟩
      unfold addG
      rw [if_pos rfl, h.inil p hp]
      rfl
  · rw [ep] at he he'
    have new : ∀ e ∈ is, e.2.2 ≠ .ref a := fun e he z => by
      obtain ⟨a2, ps2, g1, g2, g3, g4⟩ := h.ival e he
      rw [g1] at z
      cases z
      rw [na] at g3
      cases g3
    rcases List.mem_append.mp he with he | he <;> rcases List.mem_append.mp he' with he' | he'
    · exact h.iinj e he e' he' q
    · have z : e' = (p, bp, .ref a) := by simpa using he'
      subst z
      exact (new e he q).elim
    · have z : e = (p, bp, .ref a) := by simpa using he
      subst z
      exact (new e' he' q.symm).elim
    · have z : e = (p, bp, .ref a) := by simpa using he
      have z' : e' = (p, bp, .ref a) := by simpa using he'
      rw [z, z']
  · rw [ep, List.map_append] at hx
    have hx1 : x ∉ is.map (·.1) := fun z => hx (List.mem_append_left _ z)
    have hx2 : x ≠ p := fun z => hx (List.mem_append_right _ (by simp [z]))
    unfold addG
    rw [if_neg hx2]
    exact h.inil x hx1
end
/-- who steps to a pair, a row begun -/
theorem preds_row {F : FoundL} {p : PK} {l : Steps} {n : Nat} {c : Nat} {q : PK} (h : l[n]? = some (c, q)) : predsOf (F ++ [(p, l.take (n + 1))]) = addG (predsOf (F ++ [(p, l.take n)])) q p := by
  funext x
  have e : ∀ m, predsOf (F ++ [(p, l.take m)]) x = predsOf F x ++ (l.take m).filterMap fun y => if y.2 = x then some p else none := fun m => by
    unfold predsOf
    rw [List.flatMap_append]
    simp
  have e2 : ∀ z, predsOf (F ++ [(p, l.take n)]) z = predsOf F z ++ (l.take n).filterMap fun y => if y.2 = z then some p else none := fun z => by
    unfold predsOf
    rw [List.flatMap_append]
    simp
  unfold addG
  rw [e, take_snoc h, List.filterMap_append]
  by_cases hx : x = q
  · subst hx
    rw [if_pos rfl, e2, List.append_assoc]
    simp
  · rw [if_neg hx, e2]
    have : ¬ q = x := fun z => hx z.symm
    simp [this]
theorem preds_zero (F : FoundL) (p : PK) (l : Steps) : predsOf (F ++ [(p, l.take 0)]) = predsOf F := by
  funext x
  unfold predsOf
  rw [List.flatMap_append]
  simp
theorem preds_full {F : FoundL} {n : Nat} {y : PK × Steps} (h : F[n]? = some y) {k : Nat} (hk : y.2.length ≤ k) : predsOf (F.take n ++ [(y.1, y.2.take k)]) = predsOf (F.take (n + 1)) := by
  rw [take_snoc h, List.take_of_length_le hk]
theorem preds_len (F : FoundL) (B : Nat) (hB : ∀ x ∈ F, x.2.length ≤ B) (p : PK) : (predsOf F p).length ≤ F.length * B := by
  unfold predsOf
  induction F with
  | nil => simp
  | cons x F ih =>
    rw [List.flatMap_cons, List.length_append, List.length_cons, Nat.succ_mul]
    have h1 := ih fun y hy => hB y (List.mem_cons_of_mem _ hy)
    have h2 := hB x List.mem_cons_self
    have h3 : (x.2.filterMap fun y => if y.2 = p then some x.1 else none).length ≤ x.2.length := List.length_filterMap_le _ _
    omega
end KW
/-! KwD9: ways_on. -/
namespace KW
open PySem PySem.Spec PyProof.Rows L2
def lenM (F : FoundL) (p : PK) : Int := match F.find? fun x => decide (x.1 = p) with
  | some x => (x.2.length : Nat)
  | none => 0
theorem lenM_mem : ∀ {F : FoundL}, (F.map (·.1)).Nodup → ∀ {x : PK × Steps}, x ∈ F → lenM F x.1 = (x.2.length : Nat)
  | y :: F, hn, x, hx => by
    rw [List.map_cons, List.nodup_cons] at hn
    unfold lenM
    rw [List.find?_cons]
    rcases List.mem_cons.mp hx with e | hx
    · subst e
      rw [decide_eq_true rfl]
    · have hne : ¬ y.1 = x.1 := fun z => hn.1 (List.mem_map.mpr ⟨x, hx, z.symm⟩)
      rw [decide_eq_false hne]
      exact lenM_mem hn.2 hx
theorem WB.move {P : Program} {w : World} {K : PySem.W.Frag} {H0 H' H2 : Hp} {dm di : Addr} {keys : List PK} {ms is : List NE} {M : PK → Int} {G : PK → List PK} (h : WB P w K H0 H' dm di keys ms is M G)
    (kt : ∀ a xs, SqT K H' a xs → SqT K H2 a xs) (km : H2 dm = H' dm) (ki : H2 di = H' di) (kl : ∀ a l, H0 a = none → H' a = some (.lst l) → H2 a = some (.lst l)) : WB P w K H0 H2 dm di keys ms is M G :=
  ⟨h.nm, h.ni, h.ne, ⟨km.trans h.ndm.at_, fun e he => kt _ _ (h.ndm.keys e he)⟩, ⟨ki.trans h.ndi.at_, fun e he => kt _ _ (h.ndi.keys e he)⟩, h.mkeys, h.mval, fun e he => let ⟨a, ps, h1, h2, h3, h4⟩ := h.ival e he; ⟨a, ps, h1, h2, kl _ _ h2 h3, paired_mono (fun b p q => kt _ _ q) h4⟩, h.iinj, h.inil, h.inod⟩
theorem WB.gcongr {P : Program} {w : World} {K : PySem.W.Frag} {H0 H' : Hp} {dm di : Addr} {keys keys' : List PK} {ms is : List NE} {M : PK → Int} {G G' : PK → List PK} (h : WB P w K H0 H' dm di keys ms is M G) (ek : keys = keys') (eg : G = G') : WB P w K H0 H' dm di keys' ms is M G' := by
  subst ek eg
  exact h
/-- a dict of whole numbers -/
structure MB (P : Program) (w : World) (K : PySem.W.Frag) (H' : Hp) (dm : Addr) (keys : List PK) (ms : List NE) (M : PK → Int) : Prop where
  nd : ND P w K H' dm ms
  mkeys : ms.map (·.1) = keys
  mval : ∀ e ∈ ms, e.2.2 = .int (M e.1)
section
variable {P : Program} {w : World} {K : PySem.W.Frag} {H' H2 : Hp} {dm : Addr} {keys : List PK} {ms : List NE} {M : PK → Int}
theorem MB.val (h : MB P w K H' dm keys ms M) (hn : keys.Nodup) {p : PK} (hp : p ∈ keys) : valN ms p = some (.int (M p)) := by
  rw [← h.mkeys] at hp hn
  obtain ⟨e, he, ep⟩ := List.mem_map.mp hp
  subst ep
  rw [valN_mem hn he, h.mval e he]
theorem MB.set (h : MB P w K H' dm keys ms M) {p : PK} {b : Addr} {v : Int} (hp : p ∈ keys) : MB P w K (upd H' dm (NO P w dm (putN ms p b (.int v)))) dm keys (putN ms p b (.int v)) (fun q => if q = p then v else M q) := by
  have hp' : p ∈ ms.map (·.1) := by rw [h.mkeys]; exact hp
  refine ⟨⟨upd_same, fun e he => ?_⟩, by rw [putN_keys, if_pos hp', h.mkeys], fun e he => ?_⟩
  · rw [putN_old hp'] at he
    obtain ⟨e', he', rfl⟩ := List.mem_map.mp he
    have := sqT_put (o' := NO P w dm (putN ms p b (.int v))) h.nd.at_ trivial (h.nd.keys e' he')
    by_cases q : e'.1 = p
    · rw [if_pos q]; exact this
    · rw [if_neg q]; exact this
  · rw [putN_old hp'] at he
    obtain ⟨e', he', rfl⟩ := List.mem_map.mp he
    by_cases q : e'.1 = p
    · rw [if_pos q]
      show V.int v = V.int (if e'.1 = p then v else M e'.1)
      rw [if_pos q]
    · rw [if_neg q]
      show e'.2.2 = V.int (if e'.1 = p then v else M e'.1)
      rw [if_neg q]
      exact h.mval e' he'
end
def spWays (P : Program) (w : World) (K : PySem.W.Frag) : Sp := fun vs H Q _ => ∃ (d : Addr) (Hz : Hp) (F : FoundL) (dn : PK → Nat → Option PK), vs = [.ref d] ∧ FAt P w K Hz H d F ∧ Found dn F ∧ F.length ≤ 500000 ∧ (∀ x ∈ F, x.2.length ≤ 26) ∧
  ∀ dm ms M H', Same H H' → H dm = none → MB P w K H' dm (F.map (·.1)) ms M → (∀ x ∈ F, (M x.1 = 0 ↔ ¬ Goes dn x.1) ∧ 0 ≤ M x.1) → Q (.ref dm) H'
theorem scWays : FnScope ["found", "into", "many", "pair", "row", "behind", "ended", "at"] ["found"] (defScope sWays) := ⟨rfl, rfl, rfl, by decide +kernel, rfl, by decide +kernel, by decide +kernel⟩
section
variable {P : Program} {w : World} {K : PySem.W.Frag} {mg : Str → Option Value} {base : Heap} {C : Addr}
theorem ok_ways {f : Addr} {fd : FuncData} (Fn : Fun K "ways_on" "ways_on" sWays f fd) (TT : TX K mg) : FnOk P w K mg base CX0 1 f fd ["found"] (spWays P w K) := by
  refine Fn.ok scWays (fun vs H Q E h => ?_) (fun cdv A outer s H vs Q E hr h => ?_)
  · obtain ⟨d, Hz, F, dn, rfl, _⟩ := h
    rfl
  · obtain ⟨d, Hz, F, dn, rfl, ⟨hz, es, ndF, rel⟩, hF, hlen, h26, k⟩ := h
    have hu := hu_of hr
    refine ⟨_, pss_cons (ps_set (i := 1) scWays.nd rfl (Or.inl rfl) pe_nnew)
      (pss_cons (ps_set (i := 2) scWays.nd rfl (Or.inr rfl) pe_nnew)
      (pss_cons (ps_lock (ps_for PassesOwn.never rfl (pi_itemsN (pv 0)) (pg_tup rfl (pgs_cons (pg_name (i := 3) scWays.nd rfl (Or.inl rfl)) (pgs_cons (pg_name (i := 4) scWays.nd rfl (Or.inl rfl)) pgs_nil)))
        (pss_cons (ps_nput hu (pv 2) (pv 3) (pe_callB call_lenD (by rfl) TT.len PySem.boot_len (pa_cons (pv 4) pa_nil)) rfl)
          (pss_one (ps_lock (ps_for PassesOwn.never rfl (pi_values (pv 4)) (pg_name (i := 5) scWays.nd rfl (Or.inl rfl))
            (pss_one (ps_expr (pe_bm PySem.F.plainAttrs_list PySem.F.slot_list_append PySem.F.type_list_append mt_append (pe_nsetd hu (pv 1) (pv 5) (pe_lst pa_nil) ⟨rfl, rfl, rfl, rfl⟩) (pa_cons (pv 3) pa_nil))))))))))
      (pss_cons (ps_lock (ps_setLc (i := 6) (own := [("pair", 3)]) (g := gName 3) (tt := tTest (tOp _ (tNGetK P w K (tVar 2) (tVar 3)) (tC (.int 0)))) rfl scWays.nd rfl rfl (sw_true rfl rfl rfl (by decide +kernel)) (pi_keysN (pv 0))
        (blkOk_by (N := ["found", "into", "many", "pair", "row", "behind", "ended", "at"]) (sc := defScope sWays) (by decide +kernel)) (fun _ _ _ _ _ => pg_name (i := 3) scWays.nd rfl (Or.inl rfl))
        (fun _ _ _ _ _ => pts_one (pt_cmpR op_eq (pe_ngetK hu (pv 2) (pv 3) (fun _ _ => rfl)) pe_int (nomark _))) (fun _ _ _ _ _ => pv 3)))
      (pss_cons (ps_set (i := 7) scWays.nd rfl (Or.inl rfl) pe_int)
      (pss_cons (ps_while PassesOwn.never (pt_cmpR op_lt (pv 7) (pe_callB call_len_seq (by rfl) TT.len PySem.boot_len (pa_cons (pv 6) pa_nil)) (nomark _))
        (pss_cons (ps_for PassesOwn.never rfl (pi_list (pe_nget2 hu (pv 1) (pe_ix ix_list (pv 6) (pv 7) (fun _ _ => rfl)) (pe_lst pa_nil) ⟨rfl, rfl, rfl, rfl⟩)) (pg_name (i := 3) scWays.nd rfl (Or.inl rfl))
          (pss_cons (ps_nput hu (pv 2) (pv 3) (pe_op op_sub (pe_nget hu (pv 2) (pv 3) (fun _ _ => rfl)) pe_int) rfl)
            (pss_one (ps_if (pt_cmpR op_eq (pe_nget hu (pv 2) (pv 3) (fun _ _ => rfl)) pe_int (nomark _))
              (pss_one (ps_expr (pe_bm PySem.F.plainAttrs_list PySem.F.slot_list_append PySem.F.type_list_append mt_append (pv 6) (pa_cons (pv 3) pa_nil)))) pss_nil))))
        (pss_one (ps_set (i := 7) scWays.nd rfl (Or.inl rfl) (pe_op op_add (pv 7) pe_int)))))
      (pss_one (ps_ret (pv 2)))))))), ?_⟩
    intro di n1 dm n2
    have s1 := same_upd n1 (o := NO P w di [])
    have s2 := sameU s1 n2 (o := NO P w dm [])
    have hmi : dm ≠ di := fun z => by rw [z, upd_same] at n2; cases n2
    have nm : H dm = none := s1.free n2
    have hd2 := s2 _ _ ndF.at_
    have hesl : es.length = F.length := Paired.length rel
    have W0 : WB P w K H (upd (upd H di (NO P w di [])) dm (NO P w dm [])) dm di [] [] [] (lenM F) (predsOf []) :=
      ⟨nm, n1, hmi, ⟨upd_same, fun e he => (nomatch he)⟩, ⟨by rw [upd_ne hmi.symm, upd_same], fun e he => (nomatch he)⟩, rfl, fun e he => (nomatch he), fun e he => (nomatch he), fun e he => (nomatch he), fun p _ => rfl, List.nodup_nil⟩
    have hdm : dm ≠ d := fun z => by rw [z, ndF.at_] at nm; cases nm
    have hdi : di ≠ d := fun z => by rw [z, ndF.at_] at n1; cases n1
    refine ⟨d, _, hd2, trivial, fun od => ⟨_, rfl, d, od, es, rfl, upd_same, ?_⟩⟩
    refine for_it walk_itemsN (fun n σ H' => ∃ (ms is : List NE) (v3 v4 v5 : Option V), σ = [some (.ref d), some (.ref di), some (.ref dm), v3, v4, v5, none, none] ∧ (∀ b o, b ≠ d → H b = some o → H' b = some o) ∧ H' d = some (.frz od (NO P w d es)) ∧
      WB P w K H H' dm di ((F.take n).map (·.1)) ms is (lenM F) (predsOf (F.take n)) ∧ ∀ p ∈ is.map (·.1), p ∈ F.map (·.1))
      ⟨[], [], none, none, none, rfl, fun b o hb e => by rw [upd_ne hb]; exact s2 b o e, upd_same, ?_, fun p hp => nomatch hp⟩ (fun n σ H' _ ⟨_, _, _, _, _, _, _, q, _⟩ => q) ?_ ?_
    · refine W0.move (fun a xs q => sqT_put hd2 trivial q) (upd_ne hdm) (upd_ne hdi) fun a l ha hl => ?_
      rw [upd_ne (fun z => by rw [z, ndF.at_] at ha; cases ha)]
      exact hl
    · -- one pair
      rintro n x σ H3 H3' hn ⟨ms, is, v3, v4, v5, rfl, ks, hfz, W, hik⟩ ⟨tp, e, hen, rfl, ntp, rfl⟩
      obtain ⟨y, hy, e1, ra, era, _, hSt⟩ := paired_get rel hen
      have hnF := (List.getElem?_eq_some_iff.mp hy).1
      have hkey : PairAt K H e.2.1 e.1 := ndF.keys e (List.mem_of_getElem? hen)
      obtain ⟨xs, exs, hra, hxs⟩ := hSt
      have hrad : ra ≠ d := ne_of hra ndF.at_ (fun z => nomatch z)
      have kt3 : ∀ a zs, SqT K H a zs → SqT K H3 a zs := fun a zs q => sqT_but (S := fun b => b = d) (fun b o hb e => ks b o hb e) (fun b hb => by subst hb; rw [ndF.at_]; exact trivial) q
      have hkey3 : PairAt K (upd H3 tp (.tup [.ref e.2.1, e.2.2])) e.2.1 e.1 := sqT_same (same_upd ntp) (kt3 _ _ hkey)
      have hra3 : upd H3 tp (.tup [.ref e.2.1, e.2.2]) ra = some (.dK (stD xs)) := same_upd ntp _ _ (ks _ _ hrad hra)
      have W1 := W.up (same_upd ntp (o := .tup [.ref e.2.1, e.2.2]))
      have ks1 : ∀ b o, b ≠ d → H b = some o → upd H3 tp (.tup [.ref e.2.1, e.2.2]) b = some o := fun b o hb q => same_upd ntp _ _ (ks b o hb q)
      have hfz1 : upd H3 tp (.tup [.ref e.2.1, e.2.2]) d = some (.frz od (NO P w d es)) := same_upd ntp _ _ hfz
      have hT1 : SqT K (upd H3 tp (.tup [.ref e.2.1, e.2.2])) tp [.ref e.2.1, e.2.2] := SqT.of upd_same
      generalize upd H3 tp (.tup [.ref e.2.1, e.2.2]) = H4 at hkey3 hra3 W1 ks1 hfz1 hT1 ⊢
      clear W ks hfz ntp kt3
      rw [era] at hT1
      have hlx : (stD xs).length = y.2.length := by rw [← exs]; simp [stD, stL]
      have hym := List.mem_of_getElem? hy
      have hMn : lenM F e.1 = ((stD xs).length : Nat) := by rw [e1, lenM_mem hF.nodup hym, hlx]
      have hnk : e.1 ∉ (F.take n).map (·.1) := fun hm => by
        rw [e1] at hm
        obtain ⟨z, hz, ez⟩ := List.mem_map.mp hm
        obtain ⟨q, hq⟩ := List.getElem?_of_mem hz
        rw [List.getElem?_take] at hq
        by_cases hqn : q < n
        · rw [if_pos hqn] at hq
          have := nodup_get_inj hF.nodup (i := q) (j := n) (x := y.1) (by rw [List.getElem?_map, hq]; exact congrArg some ez) (by rw [List.getElem?_map, hy]; rfl)
          omega
        · rw [if_neg hqn] at hq
          cases hq
      have hmsl : ms.length = ((F.take n).map (·.1)).length := by rw [← W1.mkeys, List.length_map]
      have hmsl2 : ms.length < sizeLine := by
        rw [hmsl, List.length_map, List.length_take]
        exact Nat.lt_of_le_of_lt (by omega : _ ≤ 500000) (by decide)
      refine ⟨tp, _, rfl, hT1, rfl, _, _, rfl, _, _, rfl, rfl, ?_⟩
      refine ⟨_, rfl, ra, _, rfl, hra3, _, rfl, _, rfl, dm, ms, e.2.1, e.1, rfl, W1.ndm, rfl, hkey3, hmsl2, ?_⟩
      have W2 := W1.many hkey3 hnk hMn
      have hra4 : upd H4 dm (NO P w dm (putN ms e.1 e.2.1 (.int ((stD xs).length : Nat)))) ra = some (.dK (stD xs)) := by rw [upd_ne (ne_of hra3 W1.ndm.at_ (fun z => nomatch z))]; exact hra3
      have kp : ∀ b o, H b = some o → b ≠ dm := fun b o q z => by rw [z, nm] at q; cases q
      have ks2 : ∀ b o, b ≠ d → H b = some o → upd H4 dm (NO P w dm (putN ms e.1 e.2.1 (.int ((stD xs).length : Nat)))) b = some o := fun b o hb q => by rw [upd_ne (kp b o q)]; exact ks1 b o hb q
      have hfz2 : upd H4 dm (NO P w dm (putN ms e.1 e.2.1 (.int ((stD xs).length : Nat)))) d = some (.frz od (NO P w d es)) := by rw [upd_ne hdm.symm]; exact hfz1
      refine ⟨ra, _, hra4, trivial, fun od2 => ⟨_, rfl, ra, od2, stD xs, rfl, upd_same, ?_⟩⟩
      refine for_it walk_values (fun kk σ H' => ∃ (ms2 is : List NE) (v5 : Option V), σ = [some (.ref d), some (.ref di), some (.ref dm), some (.ref e.2.1), some (.ref ra), v5, none, none] ∧ (∀ b o, b ≠ d → b ≠ ra → H b = some o → H' b = some o) ∧ H' d = some (.frz od (NO P w d es)) ∧ H' ra = some (.frz od2 (.dK (stD xs))) ∧
        WB P w K H H' dm di ((F.take n).map (·.1) ++ [e.1]) ms2 is (lenM F) (predsOf (F.take n ++ [(y.1, y.2.take kk)])) ∧ ∀ p ∈ is.map (·.1), p ∈ F.map (·.1))
        ⟨putN ms e.1 e.2.1 (V.int ((stD xs).length : Nat)), is, v5, rfl, fun b o hb hb2 q => by rw [upd_ne hb2]; exact ks2 b o hb q, by rw [upd_ne hrad.symm]; exact hfz2, upd_same, ?_, hik⟩ (fun kk σ H' _ ⟨_, _, _, _, _, _, q, _⟩ => q) ?_ ?_
      · refine (W2.gcongr rfl (preds_zero _ _ _).symm).move (fun a zs q => sqT_put hra4 trivial q) (upd_ne (fun z => by rw [← z, nm] at hra; cases hra)) (upd_ne (fun z => by rw [← z, n1] at hra; cases hra)) fun a l ha hl => ?_
        rw [upd_ne (fun z => by rw [z, hra] at ha; cases ha)]
        exact hl
      · rintro kk x σ H6 H6' hkk ⟨ms2, is, v5, rfl, ks6, hfz6, hfr6, W6, hik6⟩ ⟨rfl, kx, ekx⟩
        have hkk' : kk < xs.length := by simpa [stD] using hkk
        have exn : xs[kk]? = some xs[kk] := List.getElem?_eq_getElem hkk'
        generalize xs[kk] = z at exn
        obtain ⟨c, q, pb⟩ := z
        have hz := hxs _ (List.mem_of_getElem? exn)
        have ekx' : (stD xs)[kk]? = some (Sum.inr (lt c), V.ref pb) := by unfold stD; rw [List.getElem?_map, exn]; rfl
        rw [ekx'] at ekx
        cases ekx
        have hyn : y.2[kk]? = some (c, q) := by rw [← exs]; unfold stL; rw [List.getElem?_map, exn]; rfl
        have kt6 : ∀ a zs, SqT K H a zs → SqT K H6' a zs := fun a zs q => sqT_but (S := fun b => b = d ∨ b = ra) (fun b o hb e => ks6 b o (fun z => hb (.inl z)) (fun z => hb (.inr z)) e)
          (fun b hb => by rcases hb with hb | hb <;> subst hb; rw [ndF.at_]; exact trivial; rw [hra]; exact trivial) q
        have hz6 : PairAt K H6' pb q := kt6 _ _ hz
        have hk6 : PairAt K H6' e.2.1 y.1 := e1 ▸ kt6 _ _ hkey
        have hqF : q ∈ F.map (·.1) := hF.closed y hym (c, q) (List.mem_of_getElem? hyn)
        have hisl : is.length ≤ F.length := by
          have := nodup_sub_len W6.inod hik6
          rwa [List.length_map, List.length_map] at this
        refine ⟨_, rfl, di, is, rfl, W6.ndi, _, rfl, Nat.zero_le _, fun l nl => ⟨is, pb, q, (W6.up (same_upd nl)).ndi, rfl, sqT_same (same_upd nl) hz6, Nat.lt_of_le_of_lt (Nat.le_trans hisl hlen) (by decide), fun v hv => ?_, fun hv => ?_⟩⟩
        · -- it was in
          obtain ⟨e0, he0, _, ev0⟩ := valN_some hv
          obtain ⟨a0, _, g1, _, _, _⟩ := W6.ival e0 he0
          rw [ev0] at g1
          subst g1
          obtain ⟨ps, hps, hpl, ha0, W7⟩ := (W6.up (same_upd nl (o := .lst []))).addOld (sqT_same (same_upd nl) hk6) hv
          have hpn := preds_len (F.take n ++ [(y.1, y.2.take kk)]) 26 (fun x hx => by
            rcases List.mem_append.mp hx with h | h
            · exact h26 x (List.mem_of_mem_take h)
            · have e' : x = (y.1, y.2.take kk) := by simpa using h
              subst e'
              show (y.2.take kk).length ≤ 26
              rw [List.length_take]
              have := h26 y hym
              omega) q
          rw [List.length_append, List.length_take, List.length_singleton, ← hpl] at hpn
          refine ⟨.inl ⟨rfl, _, SqL.of hps⟩, _, rfl, a0, _, _, rfl, rfl, hps, by rw [List.length_map]; have : sizeLine = 16777216 := sizeLine_eq; omega, ?_⟩
          have had : a0 ≠ d := fun z => by rw [z, ndF.at_] at ha0; cases ha0
          have har : a0 ≠ ra := fun z => by rw [z, hra] at ha0; cases ha0
          refine ⟨ms2, is, _, rfl, fun b o hb hb2 q => ?_, by rw [upd_ne had.symm]; exact same_upd nl _ _ hfz6, by rw [upd_ne har.symm]; exact same_upd nl _ _ hfr6, W7.gcongr rfl (preds_row hyn).symm, hik6⟩
          rw [upd_ne (fun z => by rw [z, ha0] at q; cases q)]
          exact same_upd nl _ _ (ks6 b o hb hb2 q)
        · have hld : l ≠ d := fun z => by rw [z, hfz6] at nl; cases nl
          have hlr : l ≠ ra := fun z => by rw [z, hfr6] at nl; cases nl
          have nl0 : H l = none := by
            cases z : H l with
            | none => rfl
            | some o =>
              rw [ks6 l o hld hlr z] at nl
              cases nl
          have hdil : di ≠ l := ne_of_none W6.ndi.at_ nl
          have W7 := W6.addNew (fun b o q => ⟨fun z => (by rw [z, nm] at q; cases q), fun z => (by rw [z, n1] at q; cases q)⟩) hk6 hz6 hv nl nl0
          have hl7 : upd (upd H6' l (.lst [])) di (NO P w di (putN is q pb (.ref l))) l = some (.lst []) := by rw [upd_ne hdil.symm, upd_same]
          refine ⟨.inl ⟨rfl, _, SqL.of hl7⟩, _, rfl, l, _, _, rfl, rfl, hl7, by show 0 < sizeLine; decide, ?_⟩
          refine ⟨ms2, putN is q pb (V.ref l), some (V.ref pb), rfl, fun b o hb hb2 q => ?_, by rw [upd_ne hld.symm, upd_ne hdi.symm, upd_ne hld.symm]; exact hfz6, ?_, W7.gcongr rfl (preds_row hyn).symm, fun p hp => ?_⟩
          · rw [upd_ne (fun z => by rw [z, nl0] at q; cases q), upd_ne (fun z => by rw [z, n1] at q; cases q), upd_ne (fun z => by rw [z, nl0] at q; cases q)]
            exact ks6 b o hb hb2 q
          · rw [upd_ne hlr.symm, upd_ne (fun z => by rw [← z, hra] at n1; cases n1), upd_ne hlr.symm]
            exact hfr6
          · rw [putN_keys] at hp
            by_cases hm : q ∈ is.map (·.1)
            · rw [if_pos hm] at hp
              exact hik6 p hp
            · rw [if_neg hm] at hp
              rcases List.mem_append.mp hp with h | h
              · exact hik6 p h
              · have e' : p = q := by simpa using h
                subst e'
                exact hqF
      · rintro σ H6 ⟨ms2, is, v5, rfl, ks6, hfz6, hfr6, W6, hik6⟩
        refine ⟨hfr6, ms2, is, _, _, _, rfl, fun b o hb q => ?_, by rw [upd_ne hrad.symm]; exact hfz6, ?_, hik6⟩
        · by_cases hb2 : b = ra
          · subst hb2
            rw [upd_same]
            rw [hra] at q
            exact q
          · rw [upd_ne hb2]
            exact ks6 b o hb hb2 q
        · refine (W6.gcongr ?_ (preds_full hy (by rw [hlx]; exact Nat.le_refl _))).move (fun a zs q => sqT_lk hfr6 q) (upd_ne (fun z => by rw [← z, nm] at hra; cases hra)) (upd_ne (fun z => by rw [← z, n1] at hra; cases hra)) fun a l ha hl => ?_
          · rw [take_snoc hy, List.map_append, e1]
            rfl
          · rw [upd_ne (fun z => by rw [z, hra] at ha; cases ha)]
            exact hl
    · rintro σ H3 ⟨ms, is, v3, v4, v5, rfl, ks, hfz, W, hik⟩
      rw [hesl, List.take_length] at W
      have kt3 : ∀ a zs, SqT K H a zs → SqT K H3 a zs := fun a zs q => sqT_but (S := fun b => b = d) (fun b o hb e => ks b o hb e) (fun b hb => by subst hb; rw [ndF.at_]; exact trivial) q
      have uT : ∀ (Hx : Hp) (o1 : Obj), Hx d = some (.frz o1 (NO P w d es)) → ∀ a zs, SqT K Hx a zs → SqT K (upd Hx d (NO P w d es)) a zs := fun Hx o1 hx a zs q => by
        rcases q with (q | ⟨o2, q⟩) | q
        · exact .inl (.inl (by rw [upd_ne (fun z => by rw [z, hx] at q; cases q)]; exact q))
        · exact .inl (.inr ⟨o2, by rw [upd_ne (fun z => by rw [z, hx] at q; cases q)]; exact q⟩)
        · exact .inr q
      have unl : ∀ (Hx : Hp), (∀ b o, b ≠ d → H b = some o → Hx b = some o) → Same H (upd Hx d (NO P w d es)) := fun Hx kx b o q => by
        by_cases hb : b = d
        · subst hb
          rw [upd_same]
          rw [ndF.at_] at q
          exact q
        · rw [upd_ne hb]
          exact kx b o hb q
      have s4 : Same H (upd H3 d (NO P w d es)) := unl H3 ks
      have W4 : WB P w K H (upd H3 d (NO P w d es)) dm di (F.map (·.1)) ms is (lenM F) (predsOf F) := W.move (uT H3 od hfz) (upd_ne hdm) (upd_ne hdi) fun a l ha hl => by
        rw [upd_ne (fun z => by rw [z, ndF.at_] at ha; cases ha)]
        exact hl
      have hd4 : upd H3 d (NO P w d es) d = some (NO P w d es) := upd_same
      refine ⟨hfz, ?_⟩
      -- ended = [..]
      refine ⟨d, _, upd_same, trivial, fun od2 => ⟨_, rfl, d, od2, es, rfl, upd_same, fun D hD => ?_⟩⟩
      have MB0 : MB P w K (upd H3 d (NO P w d es)) dm (F.map (·.1)) ms (lenM F) := ⟨W4.ndm, W4.mkeys, W4.mval⟩
      have hDd : D ≠ d := fun z => by rw [z, upd_same] at hD; cases hD
      have nD4 : upd H3 d (NO P w d es) D = none := by rw [upd_ne hDd] at hD; exact hD
      refine lc_it walk_keysN (fun n H' => Same (upd (upd H3 d (NO P w d es)) d (.frz od2 (NO P w d es))) H' ∧ H' D = some (.lst (((es.take n).filter fun e => decide (lenM F e.1 = 0)).map fun e => V.ref e.2.1))) ⟨same_upd hD, upd_same⟩ (fun n H' _ q => q.1 _ _ upd_same) ?_ ?_
      · rintro n x H5 H5' hn ⟨s5, hl5⟩ ⟨rfl, e, hen, rfl⟩
        have hem := List.mem_of_getElem? hen
        have hekey : e.1 ∈ F.map (·.1) := by rw [← frel_keys rel]; exact List.mem_map.mpr ⟨e, hem, rfl⟩
        have kt5 : ∀ a zs, SqT K (upd H3 d (NO P w d es)) a zs → SqT K H5' a zs := fun a zs q => sqT_same s5 (sqT_put hd4 trivial q)
        have nd5 : ND P w K H5' dm ms := ⟨s5 _ _ (by rw [upd_ne hdm]; exact W4.ndm.at_), fun z hz => kt5 _ _ (W4.ndm.keys z hz)⟩
        refine ⟨rfl, _, rfl, _, rfl, dm, ms, e.2.1, e.1, _, rfl, nd5, rfl, kt5 _ _ (sqT_same s4 (ndF.keys e hem)), MB0.val hF.nodup hekey, rfl, _, rfl, ?_⟩
        rw [take_snoc hen, List.filter_append]
        by_cases hz : lenM F e.1 = 0
        · have e2 : decide (V.int (lenM F e.1) = V.int 0) = true := decide_eq_true (by rw [hz])
          rw [e2]
          refine iteT ⟨_, rfl, _, hl5, ?_, sameP s5 hD, ?_⟩
          · rw [List.length_map]
            have h1 := List.length_filter_le (fun e : NE => decide (lenM F e.1 = 0)) (es.take n)
            rw [List.length_take] at h1
            exact Nat.lt_of_le_of_lt (by omega : _ ≤ 500000) (by decide)
          · rw [upd_same]
            simp [hz]
        · have e2 : decide (V.int (lenM F e.1) = V.int 0) = false := decide_eq_false (fun q => hz (by injection q))
          rw [e2]
          refine iteF ⟨s5, ?_⟩
          rw [hl5]
          simp [hz]
      · rintro H5 ⟨s5, hl5⟩
        rw [List.take_length] at hl5
        have s6 : Same (upd H3 d (NO P w d es)) (upd H5 d (NO P w d es)) := sameK hd4 s5
        refine ⟨s5 _ _ upd_same, ?_⟩
        have s46 : Same H (upd H5 d (NO P w d es)) := s4.trans s6
        have W5 := W4.up s6
        have hDp : upd H5 d (NO P w d es) D = some (.lst (((es.filter fun e => decide (lenM F e.1 = 0)).map fun e : NE => e.2.1).map V.ref)) := by
          rw [upd_ne hDd, hl5, List.map_map]
          rfl
        have nD : H D = none := s4.free nD4
        have hDm : D ≠ dm := ne_of hDp W5.ndm.at_ (fun z => nomatch z)
        have hDi : D ≠ di := ne_of hDp W5.ndi.at_ (fun z => nomatch z)
        have eE : (es.filter fun e => decide (lenM F e.1 = 0)).map (fun e : NE => e.1) = (F.map (·.1)).filter fun p => decide (lenM F p = 0) := by
          rw [← frel_keys rel, List.filter_map]
          rfl
        have I0 : WI dn F (lenM F) ((es.filter fun e => decide (lenM F e.1 = 0)).map fun e : NE => e.1) 0 [] := WI.start hF (fun x hx => lenM_mem hF.nodup hx) eE
        have pr0 : ∀ l : List NE, (∀ e ∈ l, e ∈ es) → Paired (fun b p => PairAt K (upd H5 d (NO P w d es)) b p) (l.map fun e : NE => e.2.1) (l.map fun e : NE => e.1) := fun l => by
          induction l with
          | nil => exact fun _ => .nil
          | cons e l ih => exact fun h => .cons (sqT_same s46 (ndF.keys e (h e List.mem_cons_self))) (ih fun z hz => h z (List.mem_cons_of_mem _ hz))
        -- what into tells, whatever becomes of many and ended
        have into_is : ∀ p, (valN is p = none ∧ predsOf F p = []) ∨ ∃ a ps, valN is p = some (.ref a) ∧ upd H5 d (NO P w d es) a = some (.lst (ps.map V.ref)) ∧ a ≠ dm ∧ a ≠ D ∧ Paired (fun b p => PairAt K (upd H5 d (NO P w d es)) b p) ps (predsOf F p) := fun p => by
          cases hv : valN is p with
          | none => exact .inl ⟨rfl, W5.inil p (valN_none.mp hv)⟩
          | some v =>
            obtain ⟨e, he, ep, ev⟩ := valN_some hv
            obtain ⟨a, ps, g1, g2, g3, g4⟩ := W5.ival e he
            obtain ⟨a', ps', g1', g2', g3', g4'⟩ := W4.ival e he
            have ea : a = a' := by rw [g1] at g1'; injection g1'
            subst ea
            rw [ep] at g4
            exact .inr ⟨a, ps, by rw [← ev, g1], g3, ne_of g3 W5.ndm.at_ (fun z => nomatch z), ne_of_none g3' nD4, g4⟩
        refine ⟨fun mm σ H' => ∃ at_ : Nat, mm = 500001 - at_ ∧ ∃ (ms : List NE) (M : PK → Int) (E : List PK) (ls : List Addr) (v3 v4 v5 : Option V), σ = [some (.ref d), some (.ref di), some (.ref dm), v3, v4, v5, some (.ref D), some (.int (at_ : Nat))] ∧
          (∀ b o, b ≠ dm → b ≠ D → upd H5 d (NO P w d es) b = some o → H' b = some o) ∧ MB P w K H' dm (F.map (·.1)) ms M ∧ H' D = some (.lst (ls.map V.ref)) ∧ Paired (fun b p => PairAt K H' b p) ls E ∧ WI dn F M E at_ [] ∧ at_ ≤ E.length,
          ⟨_, 0, rfl, ms, lenM F, _, _, v3, v4, v5, rfl, fun b o _ _ q => q, ⟨W5.ndm, W5.mkeys, W5.mval⟩, hDp, pr0 _ fun e he => (List.mem_filter.mp he).1, I0, Nat.zero_le _⟩, ?_⟩
        clear I0 pr0 eE MB0 W W4 hl5 hfz kt3 uT unl hik
        rintro mm σ H7 ⟨at_, rfl, ms, M, E, ls, v3, v4, v5, rfl, kx, B, hDl, hpr, I, hat⟩
        have hEl : E.length ≤ 500000 := Nat.le_trans I.len hlen
        have lslen : (ls.map V.ref).length = E.length := by rw [List.length_map]; exact Paired.length hpr
        have ktx : ∀ (Hx : Hp), (∀ b o, b ≠ dm → b ≠ D → upd H5 d (NO P w d es) b = some o → Hx b = some o) → ∀ a zs, SqT K (upd H5 d (NO P w d es)) a zs → SqT K Hx a zs := fun Hx kx a zs q =>
          sqT_but (S := fun b => b = dm ∨ b = D) (fun b o hb e => kx b o (fun z => hb (.inl z)) (fun z => hb (.inr z)) e) (fun b hb => by rcases hb with hb | hb <;> subst hb; rw [W5.ndm.at_]; exact trivial; rw [hDp]; exact trivial) q
        refine ⟨_, rfl, _, rfl, D, _, rfl, .inl (SqL.of hDl), _, _, rfl, rfl, _, rfl, ite2 (fun hlt => ?_) (fun hge => ?_)⟩
        · have hlt' : at_ < E.length := by
            have := of_decide_eq_true hlt
            rw [lslen] at this
            omega
          refine ⟨fun σ' H' => ∃ (ms : List NE) (M : PK → Int) (E : List PK) (ls : List Addr) (v3 v4 v5 : Option V), σ' = [some (.ref d), some (.ref di), some (.ref dm), v3, v4, v5, some (.ref D), some (.int ((at_ + 1 : Nat) : Int))] ∧
            (∀ b o, b ≠ dm → b ≠ D → upd H5 d (NO P w d es) b = some o → H' b = some o) ∧ MB P w K H' dm (F.map (·.1)) ms M ∧ H' D = some (.lst (ls.map V.ref)) ∧ Paired (fun b p => PairAt K H' b p) ls E ∧ WI dn F M E (at_ + 1) [] ∧ at_ + 1 ≤ E.length,
            fun σ' H' q => ⟨500001 - (at_ + 1), by omega, at_ + 1, rfl, q⟩, ?_⟩
          obtain ⟨e, he⟩ : ∃ e, E[at_]? = some e := ⟨E[at_], List.getElem?_eq_getElem hlt'⟩
          obtain ⟨b, hb, hbe⟩ := paired_get' hpr he
          have hb' : (ls.map V.ref)[at_]? = some (.ref b) := by rw [List.getElem?_map, hb]; rfl
          have ndi7 : ND P w K H7 di is := ⟨kx _ _ W5.ne.symm hDi.symm W5.ndi.at_, fun z hz => ktx H7 kx _ _ (W5.ndi.keys z hz)⟩
          refine ⟨_, rfl, di, is, rfl, ndi7, _, rfl, _, rfl, D, _, _, _, rfl, rfl, SqL.of hDl, atI_nat hb', Nat.zero_le _, fun l nl => ⟨is, b, e, ndi7.same (same_upd nl), rfl, sqT_same (same_upd nl) hbe, ?_⟩⟩
          have kx8 : ∀ b o, b ≠ dm → b ≠ D → upd H5 d (NO P w d es) b = some o → upd H7 l (.lst []) b = some o := fun b o h1 h2 q => same_upd nl _ _ (kx b o h1 h2 q)
          have hlm : l ≠ dm := fun z => by rw [z, B.nd.at_] at nl; cases nl
          have hlD : l ≠ D := fun z => by rw [z, hDl] at nl; cases nl
          have walk : ∃ a ps, (valN is e).getD (.ref l) = .ref a ∧ upd H7 l (.lst []) a = some (.lst (ps.map V.ref)) ∧ a ≠ dm ∧ a ≠ D ∧ Paired (fun b p => PairAt K (upd H5 d (NO P w d es)) b p) ps (predsOf F e) := by
            rcases into_is e with ⟨h1, h2⟩ | ⟨a, ps, h1, h2, h3, h4, h5⟩
            · exact ⟨l, [], by rw [h1]; rfl, upd_same, hlm, hlD, by rw [h2]; exact .nil⟩
            · exact ⟨a, ps, by rw [h1]; rfl, kx8 _ _ h3 h4 h2, h3, h4, h5⟩
          obtain ⟨a, ps, ex, hal, ham, haD, hps⟩ := walk
          have hpl : ps.length = (predsOf F e).length := Paired.length hps
          refine ⟨a, ex, ⟨_, SqL.of hal⟩, for_list (K := K) (a := a) (xs := ps.map V.ref) (fun j σ H' => ∃ (ms : List NE) (M : PK → Int) (E : List PK) (ls : List Addr) (v3 : Option V), σ = [some (.ref d), some (.ref di), some (.ref dm), v3, v4, v5, some (.ref D), some (.int (at_ : Nat))] ∧
            (∀ b o, b ≠ dm → b ≠ D → upd H5 d (NO P w d es) b = some o → H' b = some o) ∧ MB P w K H' dm (F.map (·.1)) ms M ∧ H' D = some (.lst (ls.map V.ref)) ∧ Paired (fun b p => PairAt K H' b p) ls E ∧ WI dn F M E at_ ((predsOf F e).take j) ∧ E[at_]? = some e ∧ H' a = some (.lst (ps.map V.ref)))
            ⟨ms, M, E, ls, v3, rfl, kx8, ⟨B.nd.same (same_upd nl), B.mkeys, B.mval⟩, same_upd nl _ _ hDl, paired_mono (fun b p q => sqT_same (same_upd nl) q) hpr, I, he, hal⟩ (fun j σ H' _ ⟨_, _, _, _, _, _, _, _, _, _, _, _, q⟩ => SqL.of q) ?_ ?_⟩
          · clear B hDl hpr I hat hEl lslen hlt hlt' he hb hbe hb' ndi7 nl kx8 hal kx
            rintro j x σ H8 hx ⟨ms, M, E, ls, v3, rfl, kx, B, hDl, hpr, I, he, hal⟩
            rw [List.getElem?_map, Option.map_eq_some_iff] at hx
            obtain ⟨bj, hbj, rfl⟩ := hx
            obtain ⟨p, hp, hpair⟩ := paired_get hps hbj
            have hj := (List.getElem?_eq_some_iff.mp hp).1
            have hsplit : predsOf F e = (predsOf F e).take j ++ p :: (predsOf F e).drop (j + 1) := by
              obtain ⟨l1, e1⟩ := List.getElem?_eq_some_iff.mp hp
              rw [← e1, List.getElem_cons_drop, List.take_append_drop]
            have hpF : p ∈ F.map (·.1) := by
              obtain ⟨z, hz, ez⟩ := preds_mem (List.mem_of_getElem? hp)
              exact List.mem_map.mpr ⟨z, hz, ez⟩
            have hp8 : PairAt K H8 bj p := ktx H8 kx _ _ hpair
            have hmsl : ms.length < sizeLine := by
              have : ms.length = F.length := by have := congrArg List.length B.mkeys; rwa [List.length_map, List.length_map] at this
              rw [this]
              exact Nat.lt_of_le_of_lt hlen (by decide)
            have B9 := B.set (b := bj) (v := M p - 1) hpF
            have hDm9 : upd H8 dm (NO P w dm (putN ms p bj (.int (M p - 1)))) D = some (.lst (ls.map V.ref)) := by rw [upd_ne hDm]; exact hDl
            have kt9 : ∀ a zs, SqT K H8 a zs → SqT K (upd H8 dm (NO P w dm (putN ms p bj (.int (M p - 1))))) a zs := fun a zs q => sqT_put B.nd.at_ trivial q
            have v9 := B9.val hF.nodup hpF
            refine ⟨_, rfl, _, rfl, dm, ms, bj, p, _, rfl, B.nd, rfl, hp8, B.val hF.nodup hpF, _, _, rfl, rfl, _, rfl, _, rfl, dm, ms, bj, p, rfl, B.nd, rfl, hp8, hmsl, ?_⟩
            refine ⟨_, rfl, _, rfl, dm, _, bj, p, _, rfl, B9.nd, rfl, kt9 _ _ hp8, v9, rfl, _, rfl, ?_⟩
            have ev : (if p = p then M p - 1 else M p) = M p - 1 := if_pos rfl
            rw [ev]
            have kx9 : ∀ b o, b ≠ dm → b ≠ D → upd H5 d (NO P w d es) b = some o → upd H8 dm (NO P w dm (putN ms p bj (.int (M p - 1)))) b = some o := fun b o h1 h2 q => by rw [upd_ne h1]; exact kx b o h1 h2 q
            have htk : (predsOf F e).take (j + 1) = (predsOf F e).take j ++ [p] := take_snoc hp
            have hEl : E.length ≤ 500000 := Nat.le_trans I.len hlen
            have hlsl : ls.length = E.length := Paired.length hpr
            by_cases hz : M p - 1 = 0
            · have e2 : decide (V.int (M p - 1) = V.int 0) = true := decide_eq_true (by rw [hz])
              rw [e2]
              refine iteT ⟨_, rfl, .inl ⟨rfl, _, SqL.of hDm9⟩, _, rfl, D, _, _, rfl, rfl, hDm9, ?_, ?_⟩
              · rw [List.length_map, hlsl]
                exact Nat.lt_of_le_of_lt hEl (by decide)
              · have kt10 : ∀ a zs, SqT K (upd H8 dm (NO P w dm (putN ms p bj (.int (M p - 1))))) a zs → SqT K (upd (upd H8 dm (NO P w dm (putN ms p bj (.int (M p - 1))))) D (.lst (ls.map V.ref ++ [.ref bj]))) a zs := fun a zs q => sqT_put hDm9 trivial q
                refine ⟨putN ms p bj (V.int (M p - 1)), lessOne M p, E ++ [p], ls ++ [bj], some (V.ref bj), rfl, fun b o h1 h2 q => by rw [upd_ne h2]; exact kx9 b o h1 h2 q, ⟨⟨by rw [upd_ne hDm.symm]; exact B9.nd.at_, fun z hz => kt10 _ _ (B9.nd.keys z hz)⟩, B9.mkeys, B9.mval⟩, by rw [upd_same, List.map_append]; rfl, ?_, ?_, ?_, ?_⟩
                · exact paired_snoc (R := fun b p => PairAt K _ b p) (kt10 _ _ (kt9 _ _ hp8)) (paired_mono (fun b p q => kt10 _ _ (kt9 _ _ q)) hpr)
                · rw [htk]
                  exact I.ends hF he hsplit hz
                · rw [List.getElem?_append_left (List.getElem?_eq_some_iff.mp he).1]
                  exact he
                · rw [upd_ne haD, upd_ne ham]
                  exact hal
            · have e2 : decide (V.int (M p - 1) = V.int 0) = false := decide_eq_false (fun q => hz (by injection q))
              rw [e2]
              refine iteF ⟨putN ms p bj (V.int (M p - 1)), lessOne M p, E, ls, some (V.ref bj), rfl, kx9, B9, hDm9, paired_mono (fun b p q => kt9 _ _ q) hpr, ?_, he, by rw [upd_ne ham]; exact hal⟩
              rw [htk]
              exact I.less hF he hsplit hz
          · rintro σ H8 ⟨ms, M, E, ls, v3, rfl, kx, B, hDl, hpr, I, he, hal⟩
            rw [List.length_map, hpl, List.take_length] at I
            exact ⟨_, rfl, _, _, rfl, rfl, ms, M, E, ls, _, _, _, rfl, kx, B, hDl, hpr, I.turn hF he rfl, (List.getElem?_eq_some_iff.mp he).1⟩
        · have hge' : E.length ≤ at_ := by
            have : ¬ ((at_ : Int) < ((ls.map V.ref).length : Nat)) := fun q => hge (decide_eq_true q)
            rw [lslen] at this
            omega
          refine ⟨_, rfl, k dm ms M H7 (fun b o q => kx b o (fun z => by rw [z, nm] at q; cases q) (fun z => by rw [z, nD] at q; cases q) (s46 b o q)) nm B (I.fin hF hge' rfl)⟩
end
end KW
/-! KwD10: kind_of_pairs. -/
namespace KW
open PySem PySem.Spec PyProof.Rows L2
abbrev sKofP : Stmt := top 31
section
variable (P : Program) (w : World) (K : PySem.W.Frag) (mg : Str → Option Value) (base : Heap)
/-- the class's __init__ keeps the promise sp -/
structure DefI (k : Nat) (C : Addr) (ps : List Str) (sp : Sp) : Prop where
  ex : ∃ f fd, FnOk P w K mg base CX0 k f fd ps sp ∧ Mk K C f ∧ Binds K fd ps []
end
/-- an exception class of the program's own -/
structure TE1 (K : PySem.W.Frag) (mg : Str → Option Value) (x : Str) (C : Addr) : Prop where
  gP : mg x = some (.ref C)
  xP : PySem.W.excIn K C [.type "ValueError", .type "Exception", .type "BaseException", .type "object"] "ValueError.__new__" = true
  kP : PySem.W.keepIn K (.ref C) = true
  bP : PySem.W.subIn K (.ref C) (.type "BaseException") = some true
  tP : PySem.W.typeIn K (.ref C) = some (.type "type")
section
variable {X : Cx} {j k : Nat} {x : Str} {C : Addr} {ps : List Str} {sp : Sp} {E : XK} {p pos : Pos} {e : Expr} {es : List Expr} {t : TA}
theorem pe_makeD (D : DefI X.prog X.w X.K X.mg X.base j C ps sp) (hr : Room k X.A) (hm : X.mg x = some (.ref C)) (ha : PA X (e :: es) t) (hx : Passes CX0 X E) (hjk : j + 1 ≤ k := by decide) (hg : Gl X x := by rfl) (hdb : (x == ("__debug__" : Str)) = false := by decide)
    (he : starEach (e :: es) X.env = (false, eval e X.env) :: starEach es X.env := by rfl) (hpl : (backTo pos (starEach es X.env)).any (·.1) = false := by rfl) : PE X (.Call (.Name x p) (e :: es) [] pos) (tMake C sp [] E t) := by
  obtain ⟨f, fd, G, M, hb⟩ := D.ex
  exact pe_make (hdb := hdb) M G (hr.mono hjk) hg hm hb .nil hx ha (he := he) (hpl := hpl)
end
def tNInK (P : Program) (w : World) (K : PySem.W.Frag) (ty td : TE) : TE := fun σ H Q => ty σ H fun y H1 => td σ H1 fun x H2 => ∃ d es b p, x = .ref d ∧ ND P w K H2 d es ∧ y = .ref b ∧ PairAt K H2 b p ∧ Q (.bl (valN es p).isSome) H2
theorem pc_ninK {X : Cx} {P : Program} {w : World} {K : PySem.W.Frag} {td ty : TE} {o i : Expr} (hu : X.A.units + 1 < cLine) (hi : PE X i ty) (ho : PE X o td) (hP : X.prog = P := by rfl) (hw : X.w = w := by rfl) (hK : X.K = K := by rfl) : PC X .In i o (tNInK P w K ty td) := by
  subst hP hw hK
  exact pc_nin hu hi ho
/-- the steps of a found pair -/
def stF (F : FoundL) (p : PK) : Steps := ((F.find? fun x => decide (x.1 = p)).map (·.2)).getD []
theorem stF_mem : ∀ {F : FoundL}, (F.map (·.1)).Nodup → ∀ {x : PK × Steps}, x ∈ F → stF F x.1 = x.2
  | y :: F, hn, x, hx => by
    rw [List.map_cons, List.nodup_cons] at hn
    unfold stF
    rw [List.find?_cons]
    rcases List.mem_cons.mp hx with e | hx
    · subst e
      rw [decide_eq_true rfl]
      rfl
    · have hne : ¬ y.1 = x.1 := fun z => hn.1 (List.mem_map.mpr ⟨x, hx, z.symm⟩)
      rw [decide_eq_false hne]
      exact stF_mem hn.2 hx
/-- the table of the pairs P -/
def tabF (F : FoundL) (Pp : List PK) : Tab := Pp.map fun p => rowOf Pp (stF F p)
theorem tabF_is {d : PK → Nat → Option PK} {F : FoundL} (hF : Found d F) {Pp : List PK} (h : ∀ p ∈ Pp, p ∈ F.map (·.1)) : IsTab d Pp (tabF F Pp) := by
  refine ⟨by simp [tabF], fun i p hp => ?_⟩
  obtain ⟨x, hx, e⟩ := List.mem_map.mp (h p (List.mem_of_getElem? hp))
  subst e
  refine ⟨x.2, hF.steps x hx, ?_⟩
  unfold tabF
  rw [List.getElem?_map, hp]
  show some (rowOf Pp (stF F x.1)) = _
  rw [stF_mem hF.nodup hx]
/-- the dict of places -/
structure NumD (Pp : List PK) (ps : List Addr) (es : List NE) (n : Nat) : Prop where
  len : es.length = n
  at_ : ∀ (i : Nat) (e : NE), es[i]? = some e → Pp[i]? = some e.1 ∧ ps[i]? = some e.2.1 ∧ e.2.2 = .int (i : Nat)
theorem NumD.keys {Pp : List PK} {ps : List Addr} {es : List NE} (h : NumD Pp ps es Pp.length) : es.map (·.1) = Pp := by
  refine List.ext_getElem? fun i => ?_
  rw [List.getElem?_map]
  cases e : es[i]? with
  | none =>
    have h1 := List.getElem?_eq_none_iff.mp e
    rw [h.len] at h1
    rw [List.getElem?_eq_none h1]
    rfl
  | some x => exact (h.at_ i x e).1.symm
theorem NumD.val {Pp : List PK} {ps : List Addr} {es : List NE} (h : NumD Pp ps es Pp.length) (hn : Pp.Nodup) (q : PK) : valN es q = (place Pp q).map fun k => V.int (k : Nat) := by
  cases e : place Pp q with
  | none =>
    rw [valN_none.mpr (by rw [h.keys]; exact place_none e)]
    rfl
  | some k =>
    have hk := place_some e
    have hlt := (List.getElem?_eq_some_iff.mp hk).1
    have hlt2 : k < es.length := by rw [h.len]; exact hlt
    have hx : es[k]? = some es[k] := List.getElem?_eq_getElem hlt2
    obtain ⟨h1, h2, h3⟩ := h.at_ k _ hx
    rw [hk] at h1
    have := valN_mem (by rw [h.keys]; exact hn) (List.mem_of_getElem? hx)
    rw [← Option.some.inj h1, h3] at this
    exact this
/-- the (letter, place) tuples in the making -/
def AccR (K : PySem.W.Frag) (H : Hp) (D : Addr) (r : Row) : Prop := ∃ ps : List Addr, H D = some (.lst (ps.map V.ref)) ∧ Paired (fun (p : Addr) (x : Nat × Nat) => SqT K H p [lV x.1, .int (x.2 : Nat)]) ps r
theorem AccR.push {K : PySem.W.Frag} {H : Hp} {D : Addr} {r : Row} (h : AccR K H D r) {tp : Addr} {c n : Nat} (n1 : H tp = none) (hl : r.length < 1000) :
    ∃ acc, upd H tp (.tup [lV c, .int (n : Nat)]) D = some (.lst acc) ∧ acc.length < sizeLine ∧ AccR K (upd (upd H tp (.tup [lV c, .int (n : Nat)])) D (.lst (acc ++ [.ref tp]))) D (r ++ [(c, n)]) := by
  obtain ⟨ps, h1, h2⟩ := h
  have s1 := same_upd n1 (o := .tup [lV c, .int (n : Nat)])
  have hD := s1 _ _ h1
  have hlen := Paired.length h2
  refine ⟨_, hD, by rw [List.length_map, hlen]; exact Nat.lt_trans hl (by decide), ps ++ [tp], by rw [upd_same, List.map_append]; rfl, ?_⟩
  have kt : ∀ a xs, SqT K (upd H tp (.tup [lV c, .int (n : Nat)])) a xs → SqT K (upd (upd H tp (.tup [lV c, .int (n : Nat)])) D (.lst (ps.map V.ref ++ [.ref tp]))) a xs := fun a xs => sqT_put hD trivial
  exact paired_snoc (R := fun (p : Addr) (x : Nat × Nat) => SqT K _ p [lV x.1, .int (x.2 : Nat)]) (kt _ _ (SqT.of upd_same)) (paired_mono (fun p x r => kt _ _ (sqT_same s1 r)) h2)
theorem accR_parts {K : PySem.W.Frag} {H : Hp} {D : Addr} {r : Row} (h : AccR K H D r) (hn : (r.map (·.1)).Nodup) : ∃ ps : List Addr, SqL K H D (ps.map V.ref) ∧ Paired (fun (p : Addr) (kv : Key × V) => SqT K H p [kV kv.1, kv.2]) ps (rowD r) ∧ mergeK [] (rowD r) = rowD r := by
  obtain ⟨ps, h1, h2⟩ := h
  refine ⟨ps, SqL.of h1, ?_, ?_⟩
  · clear hn h1
    induction h2 with
    | nil => exact .nil
    | cons r t ih => exact .cons r ih
  · rw [mergeK_nodup, List.nil_append]
    rw [List.nil_append, rowD_keys, List.map_map]
    exact nodup_map_on _ hn fun x _ y _ q => lt_inj (Sum.inr.inj q)
theorem NumD.push {Pp : List PK} {ps : List Addr} {es : List NE} {n : Nat} (h : NumD Pp ps es n) {p : PK} {b : Addr} (hp : Pp[n]? = some p) (hb : ps[n]? = some b) : NumD Pp ps (es ++ [(p, b, .int (n : Nat))]) (n + 1) := by
  refine ⟨by rw [List.length_append, h.len]; rfl, fun i e he => ?_⟩
  by_cases hi : i < n
  · rw [List.getElem?_append_left (by rw [h.len]; exact hi)] at he
    exact h.at_ i e he
  · have h1 := (List.getElem?_eq_some_iff.mp he).1
    rw [List.length_append, h.len, List.length_singleton] at h1
    have e1 : i = n := by omega
    subst e1
    rw [List.getElem?_append_right (by rw [h.len]; exact Nat.le_refl _), h.len, Nat.sub_self] at he
    have e2 : (p, b, V.int (i : Nat)) = e := by simpa using he
    subst e2
    exact ⟨hp, hb, rfl⟩
theorem rowOf_snoc_some {Pp : List PK} {l : Steps} {n c k : Nat} {q : PK} (h : l[n]? = some (c, q)) (hk : place Pp q = some k) : rowOf Pp (l.take (n + 1)) = rowOf Pp (l.take n) ++ [(c, k)] := by
  unfold rowOf
  rw [take_snoc h, List.filterMap_append]
  simp [hk]
theorem rowOf_snoc_none {Pp : List PK} {l : Steps} {n c : Nat} {q : PK} (h : l[n]? = some (c, q)) (hk : place Pp q = none) : rowOf Pp (l.take (n + 1)) = rowOf Pp (l.take n) := by
  unfold rowOf
  rw [take_snoc h, List.filterMap_append]
  simp [hk]
def spKofP (P : Program) (w : World) (K : PySem.W.Frag) (C CT : Addr) : Sp := fun vs H Q E => ∃ (d lp : Addr) (Hz : Hp) (F : FoundL) (dn : PK → Nat → Option PK) (Pp : List PK) (ps : List Addr), vs = [.ref d, .ref lp] ∧ FAt P w K Hz H d F ∧ Found dn F ∧
  (∀ x ∈ F, x.2.length ≤ 26) ∧ H lp = some (.lst (ps.map V.ref)) ∧ Paired (fun b p => PairAt K H b p) ps Pp ∧ Pp.Nodup ∧ (∀ p ∈ Pp, p ∈ F.map (·.1)) ∧ (∀ T, IsTab dn Pp T → WF T) ∧
  (400 < Pp.length → E (.ref CT) none H) ∧ (Pp.length ≤ 400 → ∀ k T H', Same H H' → KAt C H' k T → IsTab dn Pp T → Q (.ref k) H')
theorem scKofP : FnScope ["found", "pairs", "pair", "numbers", "table", "k", "letter", "behind"] ["found", "pairs"] (defScope sKofP) := ⟨rfl, rfl, rfl, by decide +kernel, rfl, by decide +kernel, by decide +kernel⟩
section
variable {P : Program} {w : World} {K : PySem.W.Frag} {mg : Str → Option Value} {base : Heap} {C CT : Addr}
theorem ok_kofP {f : Addr} {fd : FuncData} (Fn : Fun K "kind_of_pairs" "kind_of_pairs" sKofP f fd) (TT : TX K mg) (TC : TK K mg C) (TM : TE1 K mg "TooMany" CT) (DI : DefI P w K mg base 5 C ["self", "table"] (spInit C)) : FnOk P w K mg base (L2.CX P w) 7 f fd ["found", "pairs"] (spKofP P w K C CT) := by
  refine Fn.okX scKofP (fun vs H Q E h => ?_) (fun cdv A outer s H vs Q E hr h => ?_)
  · obtain ⟨d, lp, Hz, F, dn, Pp, ps, rfl, _⟩ := h
    rfl
  · obtain ⟨d, lp, Hz, F, dn, Pp, ps, rfl, hFA, hF, h26, hlp, hps, hPn, hPF, hWF, kE, kQ⟩ := h
    have hu := hu_of hr
    have hu2 : (A.deeper (envOfC "kind_of_pairs" (defScope sKofP) s.heap.objs.size f cdv)).units + 2 < cLine := by have := hr.units; omega
    obtain ⟨tm, hm⟩ := TT.made
    refine ⟨_, pss_cons (ps_if (pt_cmpR op_gt (pe_callB call_len_seq (by rfl) TT.len PySem.boot_len (pa_cons (pv 1) pa_nil)) (pe_glob (v := .int 400) (by rfl) hm ⟨_, rfl⟩) (nomark _))
        (pss_one (ps_raise rfl (takes_of rfl rfl rfl rfl) (pmk_own PySem.F.excBase_ValueError TM.xP TM.gP TM.kP (raises_own TM.bP TM.tP) rfl))) pss_nil)
      (PSs.nox (pss_cons (ps_set (i := 3) scKofP.nd rfl (Or.inr rfl) (pe_callTy (call_dictN rfl hu2) (by rfl) TT.dict (by decide +kernel) (pa_cons (pe_lc (own := [("k", 5), ("pair", 2)]) (g := gTup K 2 (gCons (gName 5) (gCons (gName 2) gNil))) rfl scKofP.nd (pi_enum (by rfl) TT.enum (pa_cons (pv 1) pa_nil))
          (blkOk_by (N := ["found", "pairs", "pair", "numbers", "table", "k", "letter", "behind"]) (sc := defScope sKofP) (by decide +kernel)) (fun _ _ _ _ _ => pg_tup rfl (pgs_cons (pg_name (i := 5) scKofP.nd rfl (Or.inl rfl)) (pgs_cons (pg_name (i := 2) scKofP.nd rfl (Or.inl rfl)) pgs_nil)))
          (fun _ _ _ _ _ => pts_nil) (fun _ _ _ _ _ => pe_tup (pa_cons (pv 2) (pa_cons (pv 5) pa_nil)))) pa_nil)))
      (pss_cons (ps_set (i := 4) scKofP.nd rfl (Or.inl rfl) (pe_lst pa_nil))
      (pss_cons (ps_for PassesOwn.never rfl (pi_list (pv 1)) (pg_name (i := 2) scKofP.nd rfl (Or.inl rfl))
        (pss_one (ps_expr (pe_bm PySem.F.plainAttrs_list PySem.F.slot_list_append PySem.F.type_list_append mt_append (pv 4) (pa_cons (pe_callTy (call_dictP rfl) (by rfl) TT.dict (by decide +kernel) (pa_cons (pe_lock
          (pe_lc (own := [("letter", 6), ("behind", 7)]) (g := gTup K 2 (gCons (gName 6) (gCons (gName 7) gNil))) (tt := tB (tNInK P w K (tVar 7) (tVar 3))) (te := tTup (tCons (tVar 6) (tCons (tNGetK P w K (tVar 3) (tVar 7)) tNil))) rfl scKofP.nd (pi_items (pe_nget hu (pv 0) (pv 2) (fun _ _ => rfl)))
            (blkOk_by (N := ["found", "pairs", "pair", "numbers", "table", "k", "letter", "behind"]) (sc := defScope sKofP) (by decide +kernel)) (fun _ _ _ _ _ => pg_tup rfl (pgs_cons (pg_name (i := 6) scKofP.nd rfl (Or.inl rfl)) (pgs_cons (pg_name (i := 7) scKofP.nd rfl (Or.inl rfl)) pgs_nil)))
            (fun _ _ _ _ _ => pts_one (pt_cmp (pc_ninK hu (pv 7) (pv 3)))) (fun _ _ _ _ _ => pe_tup (pa_cons (pv 6) (pa_cons (pe_ngetK hu (pv 3) (pv 7) (fun _ _ => rfl)) pa_nil))))) pa_nil)) pa_nil)))))
      (pss_one (ps_ret (pe_makeD DI hr TC.mgC (pa_cons (pv 4) pa_nil) pass0))))))), ?_⟩
    have hpl : ps.length = Pp.length := Paired.length hps
    refine ⟨_, rfl, lp, _, rfl, .inl (SqL.of hlp), _, _, rfl, rfl, _, rfl, ite2 (fun hgt => ?_) (fun hle => ?_)⟩
    · have := of_decide_eq_true hgt
      rw [List.length_map, hpl] at this
      exact kE (by omega)
    · have h400 : Pp.length ≤ 400 := by
        have : ¬ ((400 : Int) < ((ps.map V.ref).length : Nat)) := fun q => hle (decide_eq_true q)
        rw [List.length_map, hpl] at this
        omega
      clear hle kE
      refine ⟨_, rfl, lp, _, rfl, SqL.of hlp, fun D hD => ?_⟩
      refine lc_it walk_enum (fun n H' => Same H H' ∧ ∃ (es : List NE) (tps : List Addr), H' D = some (.lst (tps.map V.ref)) ∧ Paired (fun (t : Addr) (e : NE) => SqT K H' t [.ref e.2.1, e.2.2]) tps es ∧ NumD Pp ps es n) ⟨same_upd hD, [], [], upd_same, .nil, ⟨rfl, fun i e he => (by simp at he)⟩⟩ (fun n H' _ q => SqL.of (q.1 _ _ hlp)) ?_ ?_
      · rintro n x H1 H2 hn ⟨s1, es, tps, hDl, htps, hN⟩ ⟨t0, y, z, rfl, nt0, rfl, ey, ez⟩
        have hn' : n < ps.length := by rw [List.length_map] at hn; exact hn
        have hb : ps[n]? = some ps[n] := List.getElem?_eq_getElem hn'
        obtain ⟨p, hp, _⟩ := paired_get hps hb
        have ez' : (ps.map V.ref)[n]? = some z := ez
        rw [List.getElem?_map, hb] at ez'
        cases ez'
        cases ey
        have htl : tps.length = n := by rw [Paired.length htps, hN.len]
        refine ⟨t0, _, rfl, SqT.of upd_same, rfl, _, _, rfl, _, _, rfl, rfl, rfl, _, rfl, _, rfl, by show 2 ≤ sizeLine; decide, fun t nt => ?_⟩
        have s2 := sameU (same_upd nt0 (o := .tup [V.int (n : Nat), .ref ps[n]])) nt (o := .tup [.ref ps[n], V.int (n : Nat)])
        have hD2 := s2 _ _ hDl
        refine ⟨_, hD2, by rw [List.length_map, htl]; exact Nat.lt_of_lt_of_le hn' (by rw [hpl]; exact Nat.le_trans h400 (by decide)), sameP (s1.trans s2) hD, es ++ [(p, ps[n], V.int (n : Nat))], tps ++ [t], by rw [upd_same, List.map_append]; rfl, ?_, hN.push hp hb⟩
        exact paired_snoc (R := fun (t : Addr) (e : NE) => SqT K _ t [.ref e.2.1, e.2.2]) (sqT_put hD2 trivial (SqT.of upd_same)) (paired_mono (fun t e q => sqT_put hD2 trivial (sqT_same s2 q)) htps)
      · rintro H1 ⟨s1, es, tps, hDl, htps, hN⟩
        rw [List.length_map, hpl] at hN
        have hkeys : ∀ (Hx : Hp), Same H Hx → ∀ e ∈ es, PairAt K Hx e.2.1 e.1 := fun Hx sx e he => by
          obtain ⟨i, hi⟩ := List.getElem?_of_mem he
          obtain ⟨h1, h2, _⟩ := hN.at_ i e hi
          obtain ⟨p, hp, q⟩ := paired_get hps h2
          rw [h1] at hp
          cases hp
          exact sqT_same sx q
        refine ⟨D, tps, es, rfl, SqL.of hDl, by rw [hN.keys]; exact hPn, htps, hkeys H1 s1, fun nd hnd => ?_⟩
        have s2 : Same H (upd H1 nd (NO P w nd es)) := sameU s1 hnd
        have hND : ND P w K (upd H1 nd (NO P w nd es)) nd es := ⟨upd_same, hkeys _ s2⟩
        refine ⟨Nat.zero_le _, fun tl ntl => ?_⟩
        obtain ⟨_, esF, ndF, rel⟩ := hFA
        refine ⟨_, rfl, lp, rfl, ⟨_, SqL.of (same_upd ntl _ _ (s2 _ _ hlp))⟩, ?_⟩
        refine for_list (K := K) (a := lp) (xs := ps.map V.ref) (fun j σ H' => ∃ v2 : Option V, σ = [some (.ref d), some (.ref lp), v2, some (.ref nd), some (.ref tl), none, none, none] ∧ Same (upd H1 nd (NO P w nd es)) H' ∧ ∃ as : List Addr, H' tl = some (.lst (as.map V.ref)) ∧ Paired (RowAt H') as ((tabF F Pp).take j))
          ⟨none, rfl, same_upd ntl, [], upd_same, .nil⟩ (fun j σ H' _ ⟨_, _, q, _⟩ => SqL.of (q _ _ (s2 _ _ hlp))) ?_ ?_
        · rintro j x σ H4 hx ⟨v2, rfl, s4, as, htl, has⟩
          rw [List.getElem?_map, Option.map_eq_some_iff] at hx
          obtain ⟨b, hb, rfl⟩ := hx
          obtain ⟨p, hp, hbp⟩ := paired_get hps hb
          have s24 := s2.trans s4
          obtain ⟨y, hyF, eyp⟩ := List.mem_map.mp (hPF p (List.mem_of_getElem? hp))
          subst eyp
          obtain ⟨iy, hiy⟩ := List.getElem?_of_mem hyF
          obtain ⟨e, he, hey, ra, era, _, xs, exs, hra, hxs⟩ := paired_get' rel hiy
          have hval : valN esF y.1 = some (.ref ra) := by
            rw [← hey, ← era]
            exact valN_mem (by rw [frel_keys rel]; exact hF.nodup) (List.mem_of_getElem? he)
          have hra4 := s24 _ _ hra
          have hdra : d ≠ ra := ne_of ndF.at_ hra (fun z => nomatch z)
          have hndra : nd ≠ ra := ne_of (s4 _ _ hND.at_) hra4 (fun z => nomatch z)
          have htlra : tl ≠ ra := ne_of htl hra4 (fun z => nomatch z)
          have ktl : ∀ (od : Obj) a zs, SqT K H4 a zs → SqT K (upd H4 ra (.frz od (.dK (stD xs)))) a zs := fun od a zs q => sqT_put hra4 trivial q
          refine ⟨_, rfl, .inl ⟨rfl, _, SqL.of htl⟩, ra, _, hra4, trivial, fun od => ?_⟩
          have ndFl : ND P w K (upd H4 ra (.frz od (.dK (stD xs)))) d esF := ⟨by rw [upd_ne hdra]; exact s24 _ _ ndF.at_, fun z hz => ktl od _ _ (sqT_same s24 (ndF.keys z hz))⟩
          have hNl : ND P w K (upd H4 ra (.frz od (.dK (stD xs)))) nd es := ⟨by rw [upd_ne hndra]; exact s4 _ _ hND.at_, fun z hz => ktl od _ _ (sqT_same s4 (hND.keys z hz))⟩
          refine ⟨_, rfl, _, rfl, d, esF, b, y.1, _, rfl, ndFl, rfl, ktl od _ _ (sqT_same s24 hbp), hval, ra, od, stD xs, rfl, upd_same, fun D2 hD2 => ?_⟩
          have hy26 := h26 y hyF
          have hlx : (stD xs).length = y.2.length := by rw [← exs]; simp [stD, stL]
          have hD2ra : D2 ≠ ra := fun z => by rw [z, upd_same] at hD2; cases hD2
          refine lc_it walk_items (fun n Hc => Same (upd H4 ra (.frz od (.dK (stD xs)))) Hc ∧ AccR K Hc D2 (rowOf Pp (y.2.take n))) ⟨same_upd hD2, [], upd_same, .nil⟩ (fun n Hc _ q => q.1 _ _ upd_same) ?_ ?_
          · rintro n x H5 H6 hn ⟨s5, acc⟩ ⟨t0, u1, u2, rfl, nt0, rfl, eu1, eu2⟩
            have hn' : n < xs.length := by simpa [stD] using hn
            have exn : xs[n]? = some xs[n] := List.getElem?_eq_getElem hn'
            generalize xs[n] = z at exn
            obtain ⟨c, q, pb⟩ := z
            have hz := hxs _ (List.mem_of_getElem? exn)
            have ekx : (stD xs)[n]? = some (Sum.inr (lt c), V.ref pb) := by unfold stD; rw [List.getElem?_map, exn]; rfl
            have eu1' : Option.map (fun kv => kV kv.1) ((stD xs)[n]?) = some u1 := eu1
            have eu2' : Option.map Prod.snd ((stD xs)[n]?) = some u2 := eu2
            rw [ekx] at eu1' eu2'
            cases eu1'
            cases eu2'
            have hyn : y.2[n]? = some (c, q) := by rw [← exs]; unfold stL; rw [List.getElem?_map, exn]; rfl
            have s6 := sameU s5 nt0 (o := .tup [lV c, .ref pb])
            have hp6 : PairAt K (upd H5 t0 (.tup [lV c, .ref pb])) pb q := sqT_same s6 (ktl od _ _ (sqT_same s24 hz))
            have hN6 : ND P w K (upd H5 t0 (.tup [lV c, .ref pb])) nd es := hNl.same s6
            have acc6 : AccR K (upd H5 t0 (.tup [lV c, .ref pb])) D2 (rowOf Pp (y.2.take n)) := by
              obtain ⟨ps2, g1, g2⟩ := acc
              exact ⟨ps2, same_upd nt0 _ _ g1, paired_mono (fun p x q => sqT_same (same_upd nt0) q) g2⟩
            refine ⟨t0, _, rfl, SqT.of upd_same, rfl, _, _, rfl, _, _, rfl, rfl, rfl, ?_⟩
            refine ⟨_, rfl, _, rfl, nd, es, pb, q, rfl, hN6, rfl, hp6, _, rfl, ?_⟩
            rw [hN.val hPn]
            cases hpq : place Pp q with
            | none => exact iteF ⟨s6, by rw [rowOf_snoc_none hyn hpq]; exact acc6⟩
            | some kq =>
              have hvq : valN es q = some (.int (kq : Nat)) := by rw [hN.val hPn, hpq]; rfl
              have hrl : (rowOf Pp (y.2.take n)).length < 1000 := by
                have h1 : (rowOf Pp (y.2.take n)).length ≤ (y.2.take n).length := List.length_filterMap_le _ _
                rw [List.length_take] at h1
                omega
              refine iteT ⟨_, rfl, _, rfl, _, rfl, nd, es, pb, q, _, rfl, hN6, rfl, hp6, hvq, by show 2 ≤ sizeLine; decide, fun tp ntp => ?_⟩
              obtain ⟨ac, h1, h2, h3⟩ := acc6.push (c := c) (n := kq) ntp hrl
              exact ⟨ac, h1, h2, sameP (sameU s6 ntp) hD2, by rw [rowOf_snoc_some hyn hpq]; exact h3⟩
          · rintro H5 ⟨s5, acc⟩
            have hfr : H5 ra = some (.frz od (.dK (stD xs))) := s5 _ _ upd_same
            have s6 : Same H4 (upd H5 ra (.dK (stD xs))) := sameK hra4 s5
            rw [hlx, List.take_length] at acc
            have acc6 : AccR K (upd H5 ra (.dK (stD xs))) D2 (rowOf Pp y.2) := by
              obtain ⟨ps2, g1, g2⟩ := acc
              exact ⟨ps2, by rw [upd_ne hD2ra]; exact g1, paired_mono (fun p x q => sqT_lk hfr q) g2⟩
            have hrn := rowOf_nodup (P := Pp) (hF.steps y hyF).1
            obtain ⟨ps9, g1, g2, g3⟩ := accR_parts acc6 hrn
            refine ⟨hfr, D2, ps9, _, rfl, g1, g2, fun x hx => ?_⟩
            rw [g3]
            have s7 := sameU s6 hx (o := .dK (rowD (rowOf Pp y.2)))
            have htl7 := s7 _ _ htl
            have hal : as.length ≤ j := by
              have := Paired.length has
              rw [List.length_take] at this
              omega
            have hj : j < ps.length := (List.getElem?_eq_some_iff.mp hb).1
            have htj : (tabF F Pp)[j]? = some (rowOf Pp y.2) := by
              unfold tabF
              rw [List.getElem?_map, hp]
              show some (rowOf Pp (stF F y.1)) = _
              rw [stF_mem hF.nodup hyF]
            have ntl0 : upd H1 nd (NO P w nd es) tl = none := ntl
            refine ⟨tl, _, _, rfl, rfl, htl7, ?_, some (.ref b), rfl, sameP (s4.trans s7) ntl0, as ++ [x], by rw [upd_same, List.map_append]; rfl, ?_⟩
            · rw [List.length_map]
              exact Nat.lt_of_le_of_lt (by omega : _ ≤ 400) (by decide)
            · rw [take_snoc htj]
              have htx : tl ≠ x := fun z => by rw [← z, s6 _ _ htl] at hx; cases hx
              refine paired_snoc ?_ (paired_mono (fun a r q => ?_) has)
              · show upd (upd (upd H5 ra (.dK (stD xs))) x _) tl _ x = _
                rw [upd_ne htx.symm, upd_same]
              · show upd (upd (upd H5 ra (.dK (stD xs))) x _) tl _ a = _
                have q' : H4 a = some (.dK (rowD r)) := q
                rw [upd_ne (ne_of q' htl (fun z => nomatch z))]
                exact s7 _ _ q'
        · rintro σ H4 ⟨v2, rfl, s4, as, htl, has⟩
          have htl' : (tabF F Pp).length = ps.length := by unfold tabF; rw [List.length_map, hpl]
          rw [List.length_map, ← htl', List.take_length] at has
          have his := tabF_is hF hPF
          refine ⟨_, rfl, fun x dx hx hdx ne => kind_make (C := C) ⟨as, htl, has⟩ (hWF _ his) (by rw [htl', hpl]; omega) hx hdx ne fun H9 s9 hk => kQ h400 x _ H9 ((s2.trans s4).trans s9) hk his⟩
end
end KW
/-! KwD11: both_kinds, either_kind. -/
namespace KW
open PySem PySem.Spec PyProof.Rows L2
abbrev sBothK : Stmt := top 32
abbrev sEitherK : Stmt := top 33
section
variable {X : Cx} {CX : CXT} {j k : Nat} {x : Str} {ps : List Str} {sp : Sp} {E : L2.St → XK} {p pos : Pos} {e : Expr} {es : List Expr} {t : TA}
/-- a call of a def that may raise -/
theorem pe_callX (D : Def X.prog X.w X.K X.mg X.base CX j x ps sp) (hr : Room k X.A) (hx : ∀ σ, PassesAt CX X σ (E σ)) (ha : PA X (e :: es) t) (hjk : j ≤ k := by decide) (hg : Gl X x := by rfl) (hdb : (x == ("__debug__" : Str)) = false := by decide)
    (he : starEach (e :: es) X.env = (false, eval e X.env) :: starEach es X.env := by rfl) (hpl : (backTo pos (starEach es X.env)).any (·.1) = false := by rfl) : PE X (.Call (.Name x p) (e :: es) [] pos) (tCallS sp E t) := by
  obtain ⟨f, fd, G, hm, hk, hb⟩ := D.ex
  exact pe_callS (hdb := hdb) G (hr.mono hjk) hg hm hk hb hx ha (he := he) (hpl := hpl)
end
theorem letB {T U : Tab} (hT : WF T) {p q : PK} {c : Nat} (h : dB T U p c = some q) : 97 ≤ c ∧ c ≤ 122 := by
  rw [dB_eq] at h
  obtain ⟨_, a, b, h1, h2⟩ := joinB_some h
  obtain ⟨x, y⟩ := p
  cases x with
  | none => cases h1
  | some i => exact hT.letter h1
theorem letE {T U : Tab} (hT : WF T) (hU : WF U) {p q : PK} {c : Nat} (h : dE T U p c = some q) : 97 ≤ c ∧ c ≤ 122 := by
  obtain ⟨_, h1⟩ := joinE_some h
  obtain ⟨x, y⟩ := p
  rcases h1 with h1 | h1
  · cases x with
    | none => exact (h1 rfl).elim
    | some i =>
      obtain ⟨a, ha⟩ := Option.ne_none_iff_exists'.mp h1
      exact hT.letter ha
  · cases y with
    | none => exact (h1 rfl).elim
    | some i =>
      obtain ⟨a, ha⟩ := Option.ne_none_iff_exists'.mp h1
      exact hU.letter ha
theorem steps_26 {d : PK → Nat → Option PK} (hl : ∀ p c q, d p c = some q → 97 ≤ c ∧ c ≤ 122) {p : PK} {l : Steps} (h : IsSteps d p l) : l.length ≤ 26 := by
  have := nodup_sub_len (m := (List.range 26).map (· + 97)) h.1 fun c hc => by
    obtain ⟨x, hx, e⟩ := List.mem_map.mp hc
    subst e
    obtain ⟨h1, h2⟩ := hl p x.1 x.2 ((h.2 x.1 x.2).mp hx)
    exact List.mem_map.mpr ⟨x.1 - 97, List.mem_range.mpr (by omega), by omega⟩
  simpa using this
theorem goes_next {d : PK → Nat → Option PK} {p : PK} {l : Steps} (h : IsSteps d p l) (hg : Goes d p) : ∃ c q, d p c = some q ∧ Goes d q := by
  refine Classical.byContradiction fun no => ?_
  exact not_goes_of l (fun c q hq => (h.2 c q).mpr hq) (fun x hx hgx => no ⟨x.1, x.2, (h.2 x.1 x.2).mp hx, hgx⟩) hg
theorem found_steps {d : PK → Nat → Option PK} {F : FoundL} (hF : Found d F) {p : PK} (h : Reach d pk0 p) : ∃ l, IsSteps d p l := by
  obtain ⟨x, hx, e⟩ := List.mem_map.mp ((hF.mem p).mpr h)
  subst e
  exact ⟨x.2, hF.steps x hx⟩
theorem both_made {T U : Tab} (hT : WF T) {F : FoundL} (hF : Found (dB T U) F) {Pp : List PK} (hn : Pp.Nodup) (hm : ∀ p, p ∈ Pp ↔ Reach (dB T U) pk0 p ∧ Goes (dB T U) p) (h0 : Pp[0]? = some pk0) {W : Tab} (h : IsTab (dB T U) Pp W) : MadeB T U Pp W :=
  made_of hn hm h0 h (fun p q c _ e g => Goes.back e g) (fun p hr hg => let ⟨l, hl⟩ := found_steps hF hr; goes_next hl hg) fun p c q e => letB hT e
theorem on_either {T U : Tab} (hT : WF T) (hU : WF U) {p : PK} (h : Reach (dE T U) pk0 p) : ∃ c q, dE T U p c = some q ∧ True := by
  obtain ⟨h1, h2, h3⟩ := reachE_shape hT hU h
  obtain ⟨x, y⟩ := p
  have key : ∀ c, ((x.bind (stepT T · c)) ≠ none ∨ (y.bind (stepT U · c)) ≠ none) → ∃ c q, dE T U (x, y) c = some q ∧ True := fun c hc => by
    cases e : dE T U (x, y) c with
    | some q => exact ⟨c, q, e, trivial⟩
    | none =>
      obtain ⟨e1, e2⟩ := joinE_none.mp e
      rcases hc with hc | hc
      · exact (hc e1).elim
      · exact (hc e2).elim
  rcases h3 with h3 | h3
  · cases x with
    | none => exact (h3 rfl).elim
    | some i =>
      obtain ⟨c, q, e⟩ := hT.on (h1 i rfl)
      exact key c (.inl (by show stepT T i c ≠ none; rw [e]; simp))
  · cases y with
    | none => exact (h3 rfl).elim
    | some i =>
      obtain ⟨c, q, e⟩ := hU.on (h2 i rfl)
      exact key c (.inr (by show stepT U i c ≠ none; rw [e]; simp))
theorem either_made {T U : Tab} (hT : WF T) (hU : WF U) {Pp : List PK} (hn : Pp.Nodup) (hm : ∀ p, p ∈ Pp ↔ Reach (dE T U) pk0 p ∧ True) (h0 : Pp[0]? = some pk0) {W : Tab} (h : IsTab (dE T U) Pp W) : MadeE T U Pp W :=
  made_of hn hm h0 h (fun p q c _ _ _ => trivial) (fun p hr _ => on_either hT hU hr) fun p c q e => letE hT hU e
def spBothK (C CN CT : Addr) : Sp := fun vs H Q E => ∃ (a b : Addr) (T U : Tab), vs = [.ref a, .ref b] ∧ KAt C H a T ∧ KAt C H b U ∧ T.length ≤ 700 ∧ U.length ≤ 700 ∧
  (¬ Both T U [] → ∀ H', Same H H' → E (.ref CN) none H') ∧
  (∀ (Pp : List PK) (H' : Hp), Pp.Nodup → (∀ p, p ∈ Pp ↔ Reach (dB T U) pk0 p ∧ Goes (dB T U) p) → 400 < Pp.length → Same H H' → E (.ref CT) none H') ∧
  ∀ Pp W k H', MadeB T U Pp W → Pp.length ≤ 400 → Both T U [] → Same H H' → KAt C H' k W → Q (.ref k) H'
def spEitherK (C CT : Addr) : Sp := fun vs H Q E => ∃ (a b : Addr) (T U : Tab), vs = [.ref a, .ref b] ∧ KAt C H a T ∧ KAt C H b U ∧ T.length ≤ 700 ∧ U.length ≤ 700 ∧
  (∀ (Pp : List PK) (H' : Hp), Pp.Nodup → (∀ p, p ∈ Pp ↔ Reach (dE T U) pk0 p ∧ True) → 400 < Pp.length → Same H H' → E (.ref CT) none H') ∧
  ∀ Pp W k H', MadeE T U Pp W → Pp.length ≤ 400 → Same H H' → KAt C H' k W → Q (.ref k) H'
theorem scBothK : FnScope ["kind", "other", "found", "many", "pair"] ["kind", "other"] (defScope sBothK) := ⟨rfl, rfl, rfl, by decide +kernel, rfl, by decide +kernel, by decide +kernel⟩
theorem scEitherK : FnScope ["kind", "other", "found"] ["kind", "other"] (defScope sEitherK) := ⟨rfl, rfl, rfl, by decide +kernel, rfl, by decide +kernel, by decide +kernel⟩
section
variable {P : Program} {w : World} {K : PySem.W.Frag} {mg : Str → Option Value} {base : Heap} {C CT CN : Addr}
theorem many_le {T U : Tab} (hT : T.length ≤ 700) (hU : U.length ≤ 700) : (T.length + 1) * (U.length + 1) ≤ 500000 := Nat.le_trans (Nat.mul_le_mul (Nat.succ_le_succ hT) (Nat.succ_le_succ hU)) (by decide)
theorem ok_bothK {f : Addr} {fd : FuncData} (Fn : Fun K "both_kinds" "both_kinds" sBothK f fd) (TT : TX K mg) (TC : TK K mg C) (TN : TE1 K mg "NoWeather" CN) (D1 : DefM P w K mg base CX0 1 C "table" ["self"] (spTab C)) (D2 : Def P w K mg base CX0 1 "steps_of_both" ["table", "other", "pair"] (spSt K dB))
    (D3 : Def P w K mg base CX0 3 "pairs_come_to" ["steps", "table", "other"] (spPairs P w K mg base)) (D4 : Def P w K mg base CX0 1 "ways_on" ["found"] (spWays P w K)) (D5 : Def P w K mg base (L2.CX P w) 7 "kind_of_pairs" ["found", "pairs"] (spKofP P w K C CT)) :
    FnOk P w K mg base (L2.CX P w) 8 f fd ["kind", "other"] (spBothK C CN CT) := by
  refine Fn.okX scBothK (fun vs H Q E h => ?_) (fun cdv A outer s H vs Q E hr h => ?_)
  · obtain ⟨a, b, T, U, rfl, _⟩ := h
    rfl
  · obtain ⟨a, b, T, U, rfl, hA, hB, l1, l2, kN, kM, kQ⟩ := h
    have hu := hu_of hr
    obtain ⟨tf, hmF, hFt⟩ := TT.first
    obtain ⟨fB, fdB, GB, hmB, hkB, hbB⟩ := D2.ex
    refine ⟨_, pss_cons (ps_set (i := 2) scBothK.nd rfl (Or.inl rfl) (pe_callD D3 hr pass0 (pa_cons (pe_glob (v := .ref fB) (by rfl) hmB rfl) (pa_cons (pe_methD0 D1 TC.cls hr pass0 (pv 0)) (pa_cons (pe_methD0 D1 TC.cls hr pass0 (pv 1)) pa_nil)))))
      (pss_cons (ps_set (i := 3) scBothK.nd rfl (Or.inr rfl) (pe_callD D4 hr pass0 (pa_cons (pv 2) pa_nil)))
      (pss_cons (ps_if (pt_cmpR op_eq (pe_nget hu (pv 3) (pe_glob (v := .ref tf) (by rfl) hmF rfl) (fun _ _ => rfl)) pe_int (nomark _))
        (pss_one (ps_raise rfl (takes_of rfl rfl rfl rfl) (pmk_own PySem.F.excBase_ValueError TN.xP TN.gP TN.kP (raises_own TN.bP TN.tP) rfl))) pss_nil)
      (pss_one (ps_ret (pe_callX D5 hr (fun σ => passAt (takes_of rfl rfl rfl rfl) σ) (pa_cons (pv 2) (pa_cons (pe_lock (pe_lc (own := [("pair", 4)]) (g := gName 4) (tt := tTest (tOp _ (tNGetK P w K (tVar 3) (tVar 4)) (tC (.int 0)))) rfl scBothK.nd (pi_keysN (pv 2))
        (blkOk_by (N := ["kind", "other", "found", "many", "pair"]) (sc := defScope sBothK) (by decide +kernel)) (fun _ _ _ _ _ => pg_name (i := 4) scBothK.nd rfl (Or.inl rfl))
        (fun _ _ _ _ _ => pts_one (pt_cmpR op_gt (pe_ngetK hu (pv 3) (pv 4) (fun _ _ => rfl)) pe_int (nomark _))) (fun _ _ _ _ _ => pv 4))) pa_nil))))))), ?_⟩
    obtain ⟨⟨dx, la, ha, _⟩, _⟩ := id hA
    obtain ⟨⟨dy, lb, hb, _⟩, _⟩ := id hB
    refine ⟨_, rfl, a, dx, _, rfl, ha, lk_no _ (by decide +kernel), a, T, rfl, hA, fun t1 H1 s1 ht1 => ?_⟩
    refine ⟨_, rfl, b, dy, _, rfl, s1 _ _ hb, lk_no _ (by decide +kernel), b, U, rfl, hB.same s1, fun t2 H2 s2 ht2 => ?_⟩
    refine ⟨fB, t1, t2, dB, T, U, rfl, ⟨⟨fdB, _, GB.mono (by decide), hkB, hbB⟩⟩, ht1.same s2, ht2, hA.wf, hB.wf, hA.len, hB.len, fun p hp => univB hA.wf hB.wf hp, fun d F H3 s3 hFA hF hFl => ?_⟩
    have h26 : ∀ x ∈ F, x.2.length ≤ 26 := fun x hx => steps_26 (fun p c q e => letB hA.wf e) (hF.steps x hx)
    refine ⟨_, rfl, d, H2, F, dB T U, rfl, hFA, hF, Nat.le_trans hFl (many_le l1 l2), h26, fun dm ms M H4 s4 ndm B hM => ?_⟩
    have s14 : Same H H4 := ((s1.trans s2).trans s3).trans s4
    obtain ⟨l0, hl0⟩ := hF.head
    have hp0 : pk0 ∈ F.map (·.1) := List.mem_map.mpr ⟨_, List.mem_of_getElem? hl0, rfl⟩
    have hM0 := hM _ (List.mem_of_getElem? hl0)
    refine ⟨_, rfl, dm, ms, tf, pk0, _, rfl, B.nd, rfl, hFt _, B.val hF.nodup hp0, rfl, _, rfl, ?_⟩
    by_cases hz : M pk0 = 0
    · have e2 : decide (V.int (M pk0) = V.int 0) = true := decide_eq_true (by rw [hz])
      rw [e2]
      exact iteT (kN (fun q => hM0.1.mp hz (goesB0.mpr q)) H4 s14)
    · have e2 : decide (V.int (M pk0) = V.int 0) = false := decide_eq_false (fun q => hz (by injection q))
      rw [e2]
      have hg0 : Goes (dB T U) pk0 := Classical.byContradiction fun q => hz (hM0.1.mpr q)
      have hBoth := goesB0.mp hg0
      have hFA4 := hFA.same s4
      obtain ⟨hzd, es, ndF, rel⟩ := id hFA4
      have hd4 := ndF.at_
      refine iteF ⟨_, rfl, d, _, hd4, trivial, fun od => ⟨_, rfl, d, od, es, rfl, upd_same, fun D hD => ?_⟩⟩
      have hDd : D ≠ d := fun z => by rw [z, upd_same] at hD; cases hD
      have hdm : dm ≠ d := fun z => by
        obtain ⟨_, es3, nd3, _⟩ := hFA
        rw [z, nd3.at_] at ndm
        cases ndm
      refine lc_it walk_keysN (fun n H' => Same (upd H4 d (.frz od (NO P w d es))) H' ∧ H' D = some (.lst (((es.take n).filter fun e => decide (0 < M e.1)).map fun e => V.ref e.2.1))) ⟨same_upd hD, upd_same⟩ (fun n H' _ q => q.1 _ _ upd_same) ?_ ?_
      · rintro n x H5 H5' hn ⟨s5, hl5⟩ ⟨rfl, e, hen, rfl⟩
        have hem := List.mem_of_getElem? hen
        have hekey : e.1 ∈ F.map (·.1) := by rw [← frel_keys rel]; exact List.mem_map.mpr ⟨e, hem, rfl⟩
        have kt5 : ∀ a zs, SqT K H4 a zs → SqT K H5' a zs := fun a zs q => sqT_same s5 (sqT_put hd4 trivial q)
        have nd5 : ND P w K H5' dm ms := ⟨s5 _ _ (by rw [upd_ne hdm]; exact B.nd.at_), fun z hz => kt5 _ _ (B.nd.keys z hz)⟩
        refine ⟨rfl, _, rfl, _, rfl, dm, ms, e.2.1, e.1, _, rfl, nd5, rfl, kt5 _ _ (ndF.keys e hem), B.val hF.nodup hekey, _, _, rfl, rfl, _, rfl, ?_⟩
        rw [take_snoc hen, List.filter_append]
        by_cases hz : 0 < M e.1
        · have e2 : decide ((0 : Int) < M e.1) = true := decide_eq_true hz
          rw [e2]
          refine iteT ⟨_, rfl, _, hl5, ?_, sameP s5 hD, ?_⟩
          · rw [List.length_map]
            have h1 := List.length_filter_le (fun e : NE => decide (0 < M e.1)) (es.take n)
            rw [List.length_take] at h1
            have h2 : es.length = F.length := Paired.length rel
            have h3 := Nat.le_trans hFl (many_le l1 l2)
            exact Nat.lt_of_le_of_lt (by omega : _ ≤ 500000) (by decide)
          · rw [upd_same]
            simp [hz]
        · have e2 : decide ((0 : Int) < M e.1) = false := decide_eq_false hz
          rw [e2]
          refine iteF ⟨s5, ?_⟩
          rw [hl5]
          simp [hz]
      · rintro H5 ⟨s5, hl5⟩
        rw [List.take_length] at hl5
        have s6 : Same H4 (upd H5 d (NO P w d es)) := sameK hd4 s5
        have hDp : upd H5 d (NO P w d es) D = some (.lst (((es.filter fun e => decide (0 < M e.1)).map fun e : NE => e.2.1).map V.ref)) := by
          rw [upd_ne hDd, hl5, List.map_map]
          rfl
        have eE : (es.filter fun e => decide (0 < M e.1)).map (fun e : NE => e.1) = (F.map (·.1)).filter fun p => decide (0 < M p) := by
          rw [← frel_keys rel, List.filter_map]
          rfl
        have hPm : ∀ p, p ∈ (F.map (·.1)).filter (fun p => decide (0 < M p)) ↔ Reach (dB T U) pk0 p ∧ Goes (dB T U) p := fun p => by
          rw [List.mem_filter, hF.mem p, decide_eq_true_eq]
          refine and_congr_right fun hp => ?_
          obtain ⟨x, hx, e⟩ := List.mem_map.mp ((hF.mem p).mpr hp)
          subst e
          obtain ⟨h1, h2⟩ := hM x hx
          constructor
          · intro h
            refine Classical.byContradiction fun no => ?_
            have := h1.mpr no
            omega
          · intro h
            have : M x.1 ≠ 0 := fun z => h1.mp z h
            omega
        have hPn : ((F.map (·.1)).filter fun p => decide (0 < M p)).Nodup := hF.nodup.filter _
        have hP0 : ((F.map (·.1)).filter fun p => decide (0 < M p))[0]? = some pk0 := by
          cases F with
          | nil => simp at hl0
          | cons y F' =>
            have e : y = (pk0, l0) := by simpa using hl0
            subst e
            have h1 := hM0.2
            have h2 : 0 < M pk0 := by
              have h1' : 0 ≤ M pk0 := h1
              omega
            simp [h2]
        have pr : ∀ l : List NE, (∀ e ∈ l, e ∈ es) → Paired (fun b p => PairAt K (upd H5 d (NO P w d es)) b p) (l.map fun e : NE => e.2.1) (l.map fun e : NE => e.1) := fun l => by
          induction l with
          | nil => exact fun _ => .nil
          | cons e l ih => exact fun h => .cons (sqT_same s6 (ndF.keys e (h e List.mem_cons_self))) (ih fun z hz => h z (List.mem_cons_of_mem _ hz))
        refine ⟨s5 _ _ upd_same, d, D, H2, F, dB T U, _, _, rfl, hFA4.same s6, hF, h26, hDp, paired_congr (pr _ fun e he => (List.mem_filter.mp he).1) eE, hPn, fun p hp => (List.mem_filter.mp hp).1, fun W hW => (both_made hA.wf hF hPn hPm hP0 hW).wf, fun h400 => kM _ _ hPn hPm h400 (s14.trans s6), fun h400 k W H7 s7 hk hW => kQ _ W k H7 (both_made hA.wf hF hPn hPm hP0 hW) h400 hBoth ((s14.trans s6).trans s7) hk⟩
theorem ok_eitherK {f : Addr} {fd : FuncData} (Fn : Fun K "either_kind" "either_kind" sEitherK f fd) (TT : TX K mg) (TC : TK K mg C) (D1 : DefM P w K mg base CX0 1 C "table" ["self"] (spTab C)) (D2 : Def P w K mg base CX0 2 "steps_of_either" ["table", "other", "pair"] (spSt K dE))
    (D3 : Def P w K mg base CX0 3 "pairs_come_to" ["steps", "table", "other"] (spPairs P w K mg base)) (D5 : Def P w K mg base (L2.CX P w) 7 "kind_of_pairs" ["found", "pairs"] (spKofP P w K C CT)) :
    FnOk P w K mg base (L2.CX P w) 8 f fd ["kind", "other"] (spEitherK C CT) := by
  refine Fn.okX scEitherK (fun vs H Q E h => ?_) (fun cdv A outer s H vs Q E hr h => ?_)
  · obtain ⟨a, b, T, U, rfl, _⟩ := h
    rfl
  · obtain ⟨a, b, T, U, rfl, hA, hB, l1, l2, kM, kQ⟩ := h
    have hu := hu_of hr
    obtain ⟨fB, fdB, GB, hmB, hkB, hbB⟩ := D2.ex
    refine ⟨_, pss_cons (ps_set (i := 2) scEitherK.nd rfl (Or.inl rfl) (pe_callD D3 hr pass0 (pa_cons (pe_glob (v := .ref fB) (by rfl) hmB rfl) (pa_cons (pe_methD0 D1 TC.cls hr pass0 (pv 0)) (pa_cons (pe_methD0 D1 TC.cls hr pass0 (pv 1)) pa_nil)))))
      (pss_one (ps_ret (pe_callX D5 hr (fun σ => passAt (takes_of rfl rfl rfl rfl) σ) (pa_cons (pv 2) (pa_cons (pe_callTy (call_listN rfl) (by rfl) TT.list (by decide +kernel) (pa_cons (pv 2) pa_nil)) pa_nil))))), ?_⟩
    obtain ⟨⟨dx, la, ha, _⟩, _⟩ := id hA
    obtain ⟨⟨dy, lb, hb, _⟩, _⟩ := id hB
    refine ⟨_, rfl, a, dx, _, rfl, ha, lk_no _ (by decide +kernel), a, T, rfl, hA, fun t1 H1 s1 ht1 => ?_⟩
    refine ⟨_, rfl, b, dy, _, rfl, s1 _ _ hb, lk_no _ (by decide +kernel), b, U, rfl, hB.same s1, fun t2 H2 s2 ht2 => ?_⟩
    refine ⟨fB, t1, t2, dE, T, U, rfl, ⟨⟨fdB, _, GB, hkB, hbB⟩⟩, ht1.same s2, ht2, hA.wf, hB.wf, hA.len, hB.len, fun p hp => univE hA.wf hB.wf hp, fun d F H3 s3 hFA hF hFl => ?_⟩
    have h26 : ∀ x ∈ F, x.2.length ≤ 26 := fun x hx => steps_26 (fun p c q e => letE hA.wf hB.wf e) (hF.steps x hx)
    have s13 : Same H H3 := (s1.trans s2).trans s3
    obtain ⟨hzd, es, ndF, rel⟩ := id hFA
    refine ⟨_, rfl, _, rfl, d, es, rfl, ndF.at_, fun l nl => ?_⟩
    have s4 := same_upd nl (o := .lst (es.map fun e => V.ref e.2.1))
    have hPm : ∀ p, p ∈ F.map (·.1) ↔ Reach (dE T U) pk0 p ∧ True := fun p => by rw [hF.mem p, and_true]
    have hP0 : (F.map (·.1))[0]? = some pk0 := by
      obtain ⟨l0, hl0⟩ := hF.head
      rw [List.getElem?_map, hl0]
      rfl
    have pr : ∀ l1 : List NE, (∀ e ∈ l1, e ∈ es) → Paired (fun b p => PairAt K (upd H3 l (.lst (es.map fun e => V.ref e.2.1))) b p) (l1.map fun e : NE => e.2.1) (l1.map fun e : NE => e.1) := fun l1 => by
      induction l1 with
      | nil => exact fun _ => .nil
      | cons e l ih => exact fun h => .cons (sqT_same s4 (ndF.keys e (h e List.mem_cons_self))) (ih fun z hz => h z (List.mem_cons_of_mem _ hz))
    refine ⟨d, l, H2, F, dE T U, F.map (·.1), es.map fun e : NE => e.2.1, rfl, hFA.same s4, hF, h26, by rw [upd_same, List.map_map]; rfl, paired_congr (pr es fun e he => he) (frel_keys rel), hF.nodup, fun p hp => hp, fun W hW => (either_made hA.wf hB.wf hF.nodup hPm hP0 hW).wf,
      fun h400 => kM _ _ hF.nodup hPm h400 (s13.trans s4), fun h400 k W H7 s7 hk hW => kQ _ W k H7 (either_made hA.wf hB.wf hF.nodup hPm hP0 hW) h400 ((s13.trans s4).trans s7) hk⟩
end
end KW
/-! KwD12: _law_pot, _law_take, _law_letters. -/
namespace KW
open PySem PySem.Spec PyProof.Rows L2
abbrev sPot : Stmt := top 35
abbrev sTake : Stmt := top 36
abbrev sLetters : Stmt := top 37
/-- the pot of digits at p -/
def PotAt (H : Hp) (p : Addr) : Prop := ∃ c m : Int, H p = some (.lst [.int c, .int m])
/-- all but the pot as it was -/
def PX (p : Addr) (H H' : Hp) : Prop := (∀ b o, b ≠ p → H b = some o → H' b = some o) ∧ PotAt H' p
theorem PX.refl {p : Addr} {H : Hp} (h : PotAt H p) : PX p H H := ⟨fun _ _ _ q => q, h⟩
theorem PX.trans {p : Addr} {H H1 H2 : Hp} (a : PX p H H1) (b : PX p H1 H2) : PX p H H2 := ⟨fun x o h q => b.1 x o h (a.1 x o h q), b.2⟩
theorem PX.same {p : Addr} {H H1 H2 : Hp} (a : PX p H H1) (b : Same H1 H2) : PX p H H2 := ⟨fun x o h q => b x o (a.1 x o h q), by obtain ⟨c, m, h⟩ := a.2; exact ⟨c, m, b _ _ h⟩⟩
theorem PotAt.same {p : Addr} {H H' : Hp} (h : PotAt H p) (s : Same H H') : PotAt H' p := by
  obtain ⟨c, m, h⟩ := h
  exact ⟨c, m, s _ _ h⟩
theorem PX.of_same {p : Addr} {H H' : Hp} (h : PotAt H p) (s : Same H H') : PX p H H' := (PX.refl h).same s
/-- what the pot isn't, is as it was -/
theorem PX.at_ {p b : Addr} {H H' : Hp} {o : HO} (a : PX p H H') (hp : PotAt H p) (h : H b = some o) (hn : ∀ c m : Int, o ≠ .lst [.int c, .int m]) : H' b = some o := by
  refine a.1 b o (fun z => ?_) h
  obtain ⟨c, m, hc⟩ := hp
  rw [z, hc] at h
  exact hn c m (Option.some.inj h).symm
theorem PX.put {p x : Addr} {H H' : Hp} {o : HO} (a : PX p H H') (hx : H x = none) (hp : PotAt H p) : PX p H (upd H' x o) := by
  have hne : p ≠ x := fun z => by
    obtain ⟨c, m, hc⟩ := hp
    rw [z, hx] at hc
    cases hc
  refine ⟨fun b u h q => by rw [upd_ne (ne_of_none q hx)]; exact a.1 b u h q, ?_⟩
  obtain ⟨c, m, h⟩ := a.2
  exact ⟨c, m, by rw [upd_ne hne]; exact h⟩
theorem PotAt.ne {p x : Addr} {H : Hp} (h : PotAt H p) (hx : H x = none) : p ≠ x := by
  obtain ⟨c, m, h⟩ := h
  exact ne_of_none h hx
theorem lV_not {cs : List Nat} {c m : Int} : (HO.lst (cs.map lV)) ≠ .lst [.int c, .int m] := fun z => by
  injection z with z
  cases cs with
  | nil => cases z
  | cons a cs => cases z
theorem refs_not {as : List Addr} {c m : Int} : (HO.lst (as.map V.ref)) ≠ .lst [.int c, .int m] := fun z => by
  injection z with z
  cases as with
  | nil => cases z
  | cons a as => cases z
theorem TabAt.px {p l : Addr} {H H' : Hp} {T : Tab} (h : TabAt H l T) (a : PX p H H') (hp : PotAt H p) : TabAt H' l T := h.keep (fun as q => a.at_ hp q fun _ _ => refs_not) fun x kvs q => a.at_ hp q fun _ _ z => nomatch z
theorem KAt.px {C p k : Addr} {H H' : Hp} {T : Tab} (h : KAt C H k T) (a : PX p H H') (hp : PotAt H p) : KAt C H' k T := by
  obtain ⟨⟨dx, l, h1, h2⟩, h3, h4⟩ := h
  exact ⟨⟨dx, l, a.at_ hp h1 (fun _ _ z => nomatch z), h2.px a hp⟩, h3, h4⟩
def spTake : Sp := fun vs H Q _ => ∃ (p : Addr) (n : Int), vs = [.ref p, .int n] ∧ PotAt H p ∧ (0 < n ∧ n < 1073741824) ∧ ∀ (d : Nat) (H' : Hp), (d : Int) < n → PX p H H' → Q (.int (d : Nat)) H'
theorem scTake : FnScope ["_law_pot_here", "_law_many", "_law_digit"] ["_law_pot_here", "_law_many"] (defScope sTake) := ⟨rfl, rfl, rfl, by decide +kernel, rfl, by decide +kernel, by decide +kernel⟩
section
variable {P : Program} {w : World} {K : PySem.W.Frag} {mg : Str → Option Value} {base : Heap} {C CT CN : Addr}
theorem ok_take {f : Addr} {fd : FuncData} (Fn : Fun K "_law_take" "_law_take" sTake f fd) : FnOk P w K mg base CX0 1 f fd ["_law_pot_here", "_law_many"] spTake := by
  refine Fn.ok scTake (fun vs H Q E h => ?_) (fun cdv A outer s H vs Q E hr h => ?_)
  · obtain ⟨p, n, rfl, _⟩ := h
    rfl
  · obtain ⟨p, n, rfl, ⟨c, m, hp⟩, hn, k⟩ := h
    refine ⟨_, pss_cons (ps_if (pt_cmpR op_gt (pe_ix ix_list (pv 0) pe_int (fun _ _ => rfl)) pe_int (nomark _))
        (pss_cons (ps_set (i := 2) scTake.nd rfl (Or.inl rfl) (pe_op op_mod (pe_ix ix_list (pv 0) pe_int (fun _ _ => rfl)) (pv 1)))
        (pss_cons (ps_asg (pe_op op_fdiv (pe_ix ix_list (pv 0) pe_int (fun _ _ => rfl)) (pv 1)) (pg_sub (pv 0) pe_int set_list))
        (pss_one (ps_ret (pv 2))))) pss_nil)
      (pss_cons (ps_asg (pe_op op_mod (pe_op op_add (pe_op op_mul (pe_ix ix_list (pv 0) pe_int (fun _ _ => rfl)) pe_int) pe_int) pe_int) (pg_sub (pv 0) pe_int set_list))
      (pss_one (ps_ret (pe_op op_mod (pe_op op_fdiv (pe_op op_mod (pe_op op_mul (pe_ix ix_list (pv 0) pe_int (fun _ _ => rfl)) (pe_ix ix_list (pv 0) pe_int (fun _ _ => rfl))) pe_int) pe_int) (pv 1))))), ?_⟩
    have i0 : ∀ x y : V, atI [x, y] (0 : Int) = some x := fun x y => rfl
    have i1 : ∀ x y : V, atI [x, y] (1 : Int) = some y := fun x y => rfl
    have fin : ∀ (z : Int) (H' : Hp), PX p H H' → Q (.int (z % n)) H' := fun z H' hx => by
      have h1 : 0 ≤ z % n := Int.emod_nonneg _ (by omega)
      have h2 : z % n < n := Int.emod_lt_of_pos _ hn.1
      obtain ⟨d, hd⟩ : ∃ d : Nat, z % n = (d : Int) := ⟨(z % n).toNat, by omega⟩
      have := k d H' (by omega) hx
      rw [hd]
      exact this
    refine ⟨_, rfl, p, _, _, _, rfl, rfl, SqL.of hp, i0 _ _, _, _, rfl, rfl, _, rfl, ite2 (fun hc => ?_) (fun hc => ?_)⟩
    · refine ⟨_, rfl, p, _, _, _, rfl, rfl, SqL.of hp, i0 _ _, _, rfl, _, _, rfl, rfl, hn.1, ?_⟩
      refine ⟨_, rfl, p, _, _, _, rfl, rfl, SqL.of hp, i0 _ _, _, rfl, _, _, rfl, rfl, hn, _, rfl, p, _, _, 0, rfl, rfl, hp, rfl, ?_⟩
      exact ⟨_, rfl, fin c _ ⟨fun b o h q => by rw [upd_ne h]; exact q, c / n, m, upd_same⟩⟩
    · refine ⟨_, rfl, p, _, _, _, rfl, rfl, SqL.of hp, i1 _ _, _, _, rfl, rfl, .inr ⟨by decide, by decide⟩, _, _, rfl, rfl, _, _, rfl, rfl, (by show (0 : Int) < 2147483629; decide), _, rfl, p, _, _, 1, rfl, rfl, hp, rfl, ?_⟩
      have hp2 : upd H p (.lst ([.int c, .int m].set 1 (.int ((m * 39373 + 2311) % 2147483629)))) p = some (.lst [.int c, .int ((m * 39373 + 2311) % 2147483629)]) := upd_same
      have b1 : 0 ≤ (m * 39373 + 2311) % 2147483629 := Int.emod_nonneg _ (by decide)
      have b2 : (m * 39373 + 2311) % 2147483629 < 2147483629 := Int.emod_lt_of_pos _ (by decide)
      refine ⟨_, rfl, p, _, _, _, rfl, rfl, SqL.of hp2, i1 _ _, _, rfl, p, _, _, _, rfl, rfl, SqL.of hp2, i1 _ _, _, _, rfl, rfl, .inl ⟨by omega, by omega⟩, _, _, rfl, rfl, (by show (0 : Int) < 2147483587; decide), _, _, rfl, rfl, ⟨by decide, by decide⟩, _, rfl, _, _, rfl, rfl, hn.1, ?_⟩
      exact fin _ _ ⟨fun b o h q => by rw [upd_ne h]; exact q, c, _, upd_same⟩
def spPot (K : PySem.W.Frag) : Sp := fun vs H Q _ => ∃ (a : Addr) (ns : List Int) (k : Nat), vs = [.ref a, .int (k : Nat)] ∧ SqL K H a (ns.map V.int) ∧ ns.length ≤ 1000 ∧ ∀ (p : Addr) (H' : Hp), Same H H' → H p = none → PotAt H' p → Q (.ref p) H'
theorem scPot : FnScope ["_law_script", "_law_k", "_law_cell", "_law_mixed", "_law_one"] ["_law_script", "_law_k"] (defScope sPot) := ⟨rfl, rfl, rfl, by decide +kernel, rfl, by decide +kernel, by decide +kernel⟩
theorem ok_pot {f : Addr} {fd : FuncData} (Fn : Fun K "_law_pot" "_law_pot" sPot f fd) (TT : TX K mg) : FnOk P w K mg base CX0 1 f fd ["_law_script", "_law_k"] (spPot K) := by
  refine Fn.ok scPot (fun vs H Q E h => ?_) (fun cdv A outer s H vs Q E hr h => ?_)
  · obtain ⟨a, ns, k, rfl, _⟩ := h
    rfl
  · obtain ⟨a, ns, kk, rfl, hS, hl, k⟩ := h
    refine ⟨_, pss_cons (ps_set (i := 2) scPot.nd rfl (Or.inl rfl) pe_int)
      (pss_cons (ps_if (pt_cmpR op_lt (pv 1) (pe_callB call_len_seq (by rfl) TT.len PySem.boot_len (pa_cons (pv 0) pa_nil)) (nomark _)) (pss_one (ps_set (i := 2) scPot.nd rfl (Or.inl rfl) (pe_ix ix_list (pv 0) (pv 1) (fun _ _ => rfl)))) pss_nil)
      (pss_cons (ps_set (i := 3) scPot.nd rfl (Or.inl rfl) (pe_op op_add pe_int (pe_op op_mul pe_int (pv 1))))
      (pss_cons (ps_for PassesOwn.never rfl (pi_list (pe_slice sl_list (pv 0) po_none (po_some pe_int))) (pg_name (i := 4) scPot.nd rfl (Or.inl rfl))
        (pss_one (ps_set (i := 3) scPot.nd rfl (Or.inl rfl) (pe_op op_mod (pe_op op_add (pe_op op_mul (pv 3) pe_int) (pv 4)) pe_int))))
      (pss_one (ps_ret (pe_lst (pa_cons (pe_op op_mul (pv 2) (pe_callTy call_int1 (by rfl) TT.int (by decide +kernel) (pa_cons (pe_cmpR op_ge (pv 2) (pe_op op_pow pe_int pe_int) (nomark _)) pa_nil))) (pa_cons (pv 3) pa_nil)))))))), ?_⟩
    have hints : ∀ (i : Nat) (y : V), (cutV (ns.map V.int) none (some 63))[i]? = some y → ∃ z : Int, y = .int z := fun i y hy => by
      have h1 := List.mem_of_getElem? hy
      unfold cutV at h1
      obtain ⟨z, _, e⟩ := List.mem_map.mp (List.mem_of_mem_drop (List.mem_of_mem_take h1))
      exact ⟨z, e.symm⟩
    refine ⟨_, rfl, _, rfl, a, _, rfl, .inl hS, _, _, rfl, rfl, _, rfl, ite2 (fun hc => ?_) (fun hc => ?_)⟩
    · have hk : kk < ns.length := by
        have := of_decide_eq_true hc
        rw [List.length_map] at this
        omega
      refine ⟨_, rfl, _, rfl, a, _, _, V.int ns[kk], rfl, rfl, hS, atI_nat (by rw [List.getElem?_map, List.getElem?_eq_getElem hk]; rfl), ?_⟩
      refine ⟨_, rfl, _, _, rfl, rfl, .inl ⟨by decide, by decide⟩, _, _, rfl, rfl, _, rfl, _, rfl, a, _, rfl, hS, fun p np => ⟨p, rfl, ⟨_, SqL.of upd_same⟩, ?_⟩⟩
      refine for_list (K := K) (a := p) (xs := cutV (ns.map V.int) none (some 63)) (fun i σ H' => ∃ (cell mixed : Int) (v4 : Option V), σ = [some (.ref a), some (.int (kk : Nat)), some (.int cell), some (.int mixed), v4] ∧ H' = upd H p (.lst (cutV (ns.map V.int) none (some 63))))
        ⟨_, _, none, rfl, rfl⟩ (fun i σ H' _ ⟨_, _, _, _, q⟩ => by rw [q]; exact SqL.of upd_same) ?_ ?_
      · rintro i y σ H' hy ⟨cell, mixed, v4, rfl, rfl⟩
        obtain ⟨z, rfl⟩ := hints i y hy
        exact ⟨_, rfl, _, _, rfl, rfl, .inr ⟨by decide, by decide⟩, _, rfl, _, _, rfl, rfl, _, _, rfl, rfl, (by show (0 : Int) < 2147483629; decide), cell, _, _, rfl, rfl⟩
      · rintro σ H' ⟨cell, mixed, v4, rfl, rfl⟩
        refine ⟨_, rfl, _, rfl, _, _, rfl, rfl, ⟨by decide, by decide, by decide⟩, _, _, rfl, rfl, .inr ⟨_, rfl, _, _, rfl, rfl, .inr ?_, _, rfl, by show 2 ≤ sizeLine; decide, fun q nq => k q _ (sameU (same_upd np) nq) ((same_upd np).free nq) ⟨_, _, upd_same⟩⟩⟩
        split <;> exact ⟨by decide, by decide⟩
    · refine ⟨_, rfl, _, _, rfl, rfl, .inl ⟨by decide, by decide⟩, _, _, rfl, rfl, _, rfl, _, rfl, a, _, rfl, hS, fun p np => ⟨p, rfl, ⟨_, SqL.of upd_same⟩, ?_⟩⟩
      refine for_list (K := K) (a := p) (xs := cutV (ns.map V.int) none (some 63)) (fun i σ H' => ∃ (cell mixed : Int) (v4 : Option V), σ = [some (.ref a), some (.int (kk : Nat)), some (.int cell), some (.int mixed), v4] ∧ H' = upd H p (.lst (cutV (ns.map V.int) none (some 63))))
        ⟨_, _, none, rfl, rfl⟩ (fun i σ H' _ ⟨_, _, _, _, q⟩ => by rw [q]; exact SqL.of upd_same) ?_ ?_
      · rintro i y σ H' hy ⟨cell, mixed, v4, rfl, rfl⟩
        obtain ⟨z, rfl⟩ := hints i y hy
        exact ⟨_, rfl, _, _, rfl, rfl, .inr ⟨by decide, by decide⟩, _, rfl, _, _, rfl, rfl, _, _, rfl, rfl, (by show (0 : Int) < 2147483629; decide), cell, _, _, rfl, rfl⟩
      · rintro σ H' ⟨cell, mixed, v4, rfl, rfl⟩
        refine ⟨_, rfl, _, rfl, _, _, rfl, rfl, ⟨by decide, by decide, by decide⟩, _, _, rfl, rfl, .inr ⟨_, rfl, _, _, rfl, rfl, .inr ?_, _, rfl, by show 2 ≤ sizeLine; decide, fun q nq => k q _ (sameU (same_upd np) nq) ((same_upd np).free nq) ⟨_, _, upd_same⟩⟩⟩
        split <;> exact ⟨by decide, by decide⟩
end
end KW
/-! KwD13: _law_letters, _law_table. -/
namespace KW
open PySem PySem.Spec PyProof.Rows L2
abbrev sLawTable : Stmt := top 38
/-- letters, each once -/
def LetOk (cs : List Nat) : Prop := cs.Nodup ∧ ∀ c ∈ cs, 97 ≤ c ∧ c ≤ 122
theorem LetOk.len {cs : List Nat} (h : LetOk cs) : cs.length ≤ 26 := by
  have := nodup_sub_len (m := (List.range 26).map (· + 97)) h.1 fun c hc => by
    obtain ⟨h1, h2⟩ := h.2 c hc
    exact List.mem_map.mpr ⟨c - 97, List.mem_range.mpr (by omega), by omega⟩
  simpa using this
def spLetters : Sp := fun vs H Q _ => ∃ (p : Addr) (n : Nat), vs = [.ref p, .int (n : Nat)] ∧ PotAt H p ∧ n ≤ 26 ∧ ∀ (l : Addr) (cs : List Nat) (H' : Hp), cs.length = n → LetOk cs → H l = none → H' l = some (.lst (cs.map lV)) → PX p H H' → Q (.ref l) H'
theorem scLetters : FnScope ["_law_pot_here", "_law_many", "_law_left", "_law_letter", "_law_k"] ["_law_pot_here", "_law_many"] (defScope sLetters) := ⟨rfl, rfl, rfl, by decide +kernel, rfl, by decide +kernel, by decide +kernel⟩
theorem seqIx {n d : Nat} (h : d < n) : seqIndex? ((d : Nat) : Int) n = some d := (ixN_seq (by unfold ixN; rw [if_pos (by omega), if_pos (by omega)]; simp)).1
theorem perm_erase {A : Type} : ∀ {l : List A} {i : Nat} {x : A}, l[i]? = some x → (x :: l.eraseIdx i).Perm l
  | [], _, _, h => by simp at h
  | a :: l, 0, x, h => by
    simp at h
    subst h
    exact List.Perm.refl _
  | a :: l, i + 1, x, h => by
    have ih := perm_erase (l := l) (i := i) (x := x) (by simpa using h)
    show (x :: a :: l.eraseIdx i).Perm (a :: l)
    exact (List.Perm.swap a x _).trans (ih.cons a)
theorem erase_map {A B : Type} (f : A → B) : ∀ (l : List A) (i : Nat), (l.map f).eraseIdx i = (l.eraseIdx i).map f
  | [], _ => rfl
  | a :: l, 0 => rfl
  | a :: l, i + 1 => by
    show f a :: (l.map f).eraseIdx i = f a :: (l.eraseIdx i).map f
    rw [erase_map f l i]
section
variable {P : Program} {w : World} {K : PySem.W.Frag} {mg : Str → Option Value} {base : Heap} {C CT CN : Addr}
theorem ok_letters {f : Addr} {fd : FuncData} (Fn : Fun K "_law_letters" "_law_letters" sLetters f fd) (TT : TX K mg) (D : Def P w K mg base CX0 1 "_law_take" ["_law_pot_here", "_law_many"] spTake) : FnOk P w K mg base CX0 2 f fd ["_law_pot_here", "_law_many"] spLetters := by
  refine Fn.ok scLetters (fun vs H Q E h => ?_) (fun cdv A outer s H vs Q E hr h => ?_)
  · obtain ⟨p, n, rfl, _⟩ := h
    rfl
  · obtain ⟨p, n, rfl, hp, hn, k⟩ := h
    refine ⟨_, pss_cons (ps_set (i := 2) scLetters.nd rfl (Or.inr rfl) (pe_lc (own := [("_law_letter", 3)]) (g := gName 3) (tt := tYes) rfl scLetters.nd (pi_str pe_str) (blkOk_by (N := ["_law_pot_here", "_law_many", "_law_left", "_law_letter", "_law_k"]) (sc := defScope sLetters) (by decide +kernel))
        (fun _ _ _ _ _ => pg_name (i := 3) scLetters.nd rfl (Or.inl rfl)) (fun _ _ _ _ _ => pts_nil) (fun _ _ _ _ _ => pv 3)))
      (pss_one (ps_ret (pe_lc (own := [("_law_k", 4)]) (g := gName 4) (tt := tYes) (te := tBM K "list" rPopAt (tVar 2) (tCons (tCall spTake [] E0 (tCons (tVar 0) (tCons (tCB (rLenS K) (tCons (tVar 2) tNil)) tNil))) tNil)) rfl scLetters.nd (pi_range1 (by rfl) TT.range (pa_cons (pv 1) pa_nil))
        (blkOk_by (N := ["_law_pot_here", "_law_many", "_law_left", "_law_letter", "_law_k"]) (sc := defScope sLetters) (by decide +kernel)) (fun _ _ _ _ _ => pg_name (i := 4) scLetters.nd rfl (Or.inl rfl)) (fun _ _ _ _ _ => pts_nil)
        (fun _ _ _ _ _ => pe_bm PySem.F.plainAttrs_list PySem.F.slot_list_pop PySem.F.type_list_pop mt_popAt (pv 2) (pa_cons (pe_callD D hr pass0 (pa_cons (pv 0) (pa_cons (pe_callB (r := rLenS K) call_len_seq (by rfl) TT.len PySem.boot_len (pa_cons (pv 2) pa_nil)) pa_nil))) pa_nil))))), ?_⟩
    refine ⟨abc, rfl, fun L hL => ?_⟩
    have hpL : p ≠ L := hp.ne hL
    refine lc_it walk_str (fun i H' => Same H H' ∧ H' L = some (.lst ((abcL.take i).map lV))) ⟨same_upd hL, upd_same⟩ (fun _ _ _ _ => trivial) ?_ ?_
    · rintro i x H1 H2 hi ⟨s1, hl⟩ ⟨rfl, c, hc, rfl⟩
      have hc' : abcL[i]? = some c := by
        rw [← hc]
        show abcL[i]? = (abcL.toArray)[i]?
        simp
      refine ⟨rfl, _, rfl, _, hl, ?_, sameP s1 hL, by rw [upd_same, take_snoc hc', List.map_append]; rfl⟩
      rw [List.length_map, List.length_take]
      exact Nat.lt_of_le_of_lt (Nat.min_le_left _ _) (Nat.lt_trans hi (by decide))
    · rintro H1 ⟨s1, hl⟩
      have hl1 : H1 L = some (.lst (abcL.map lV)) := hl
      refine ⟨_, rfl, (n : Int), rfl, by omega, by omega, fun D hD => ?_⟩
      have hLD : L ≠ D := ne_of_none hl1 hD
      have hD0 : H D = none := s1.free hD
      have hpD : p ≠ D := (hp.same s1).ne hD
      refine lc_range (lo := 0) (n := (n : Int).toNat) (fun kk H' => PX p H H' ∧ ∃ (cs ls : List Nat), cs.length = kk ∧ ls.length + kk = 26 ∧ (cs ++ ls).Perm abcL ∧ H' D = some (.lst (cs.map lV)) ∧ H' L = some (.lst (ls.map lV)))
        ⟨(PX.of_same hp s1).same (same_upd hD), [], abcL, rfl, rfl, List.Perm.refl _, upd_same, by rw [upd_ne hLD]; exact hl1⟩ ?_ ?_
      · rintro kk H2 hkk ⟨px, cs, ls, hcl, hll, hperm, hDl, hLl⟩
        have hkk' : kk < n := by simpa using hkk
        refine ⟨rfl, _, rfl, .inl ⟨rfl, _, SqL.of hLl⟩, _, rfl, _, rfl, L, _, rfl, .inl (SqL.of hLl), p, _, rfl, px.2, ⟨by rw [List.length_map]; omega, by rw [List.length_map]; omega⟩, fun d H3 hd px3 => ?_⟩
        have hdl : d < ls.length := by rw [List.length_map] at hd; omega
        have hLl3 := px3.at_ px.2 hLl fun _ _ => lV_not
        have hDl3 := px3.at_ px.2 hDl fun _ _ => lV_not
        have hgd : (ls.map lV)[d]? = some (lV ls[d]) := by rw [List.getElem?_map, List.getElem?_eq_getElem hdl]; rfl
        refine ⟨L, _, _, d, _, rfl, rfl, hLl3, by omega, by omega, by rw [List.length_map]; exact seqIx hdl, hgd, _, by rw [upd_ne hLD.symm]; exact hDl3, by rw [List.length_map, hcl]; exact Nat.lt_of_lt_of_le hkk' (Nat.le_trans hn (by decide)), ?_⟩
        have px4 := ((px.trans px3).put hL hp (o := .lst ((ls.map lV).eraseIdx d))).put hD0 hp (o := .lst (cs.map lV ++ [lV ls[d]]))
        refine ⟨px4, cs ++ [ls[d]], ls.eraseIdx d, by rw [List.length_append, hcl]; rfl, ?_, ?_, by rw [upd_same, List.map_append]; rfl, ?_⟩
        · rw [List.length_eraseIdx, if_pos hdl]
          omega
        · rw [List.append_assoc]
          refine (List.Perm.append_left cs ?_).trans hperm
          exact perm_erase (List.getElem?_eq_getElem hdl)
        · rw [upd_ne hLD, upd_same, erase_map]
      · rintro H2 ⟨px, cs, ls, hcl, hll, hperm, hDl, hLl⟩
        have hok : LetOk cs := by
          have hab : abcL.Nodup := by decide
          have hb2 : ∀ c ∈ abcL, 97 ≤ c ∧ c ≤ 122 := by decide
          have hn2 := hperm.nodup_iff.mpr hab
          exact ⟨(List.nodup_append.mp hn2).1, fun c hc => hb2 c (hperm.mem_iff.mp (List.mem_append_left _ hc))⟩
        exact k D cs H2 (by rw [hcl]; simp) hok hD0 hDl px
end
end KW
/-! KwD14: _law_table. -/
namespace KW
open PySem PySem.Spec PyProof.Rows L2
/-- a row over the letters cs, to rows below m -/
def RowOk (cs : List Nat) (m : Nat) (r : Row) : Prop := (r.map (·.1)).Nodup ∧ ∀ x ∈ r, x.1 ∈ cs ∧ x.2 < m
theorem RowOk.push {cs : List Nat} {m : Nat} {r : Row} (h : RowOk cs m r) {c v : Nat} (hc : c ∉ cs) (hv : v < m) : RowOk (cs ++ [c]) m (r ++ [(c, v)]) := by
  refine ⟨?_, fun x hx => ?_⟩
  · rw [List.map_append]
    refine nodup_snoc h.1 fun hm => ?_
    obtain ⟨x, hx, e⟩ := List.mem_map.mp hm
    have e' : x.1 = c := e
    have h1 := (h.2 x hx).1
    rw [e'] at h1
    exact hc h1
  · rcases List.mem_append.mp hx with hx | hx
    · exact ⟨List.mem_append_left _ (h.2 x hx).1, (h.2 x hx).2⟩
    · have e : x = (c, v) := by simpa using hx
      subst e
      exact ⟨List.mem_append_right _ (by simp), hv⟩
theorem RowOk.mono {cs cs' : List Nat} {m : Nat} {r : Row} (h : RowOk cs m r) (k : ∀ c ∈ cs, c ∈ cs') : RowOk cs' m r := ⟨h.1, fun x hx => ⟨k _ (h.2 x hx).1, (h.2 x hx).2⟩⟩
theorem putK_row {r : Row} {c v : Nat} (h : c ∉ r.map (·.1)) : putK (rowD r) (Sum.inr (lt c)) (.int (v : Nat)) = rowD (r ++ [(c, v)]) := by
  unfold putK
  rw [if_neg]
  · unfold rowD
    rw [List.map_append]
    rfl
  · intro q
    rw [List.any_eq_true] at q
    obtain ⟨y, hy, e⟩ := q
    unfold rowD at hy
    obtain ⟨x, hx, ex⟩ := List.mem_map.mp hy
    subst ex
    exact h (List.mem_map.mpr ⟨x, hx, lt_inj (Sum.inr.inj (of_decide_eq_true e))⟩)
def spLawTable : Sp := fun vs H Q _ => ∃ (p l : Addr) (cs : List Nat) (n : Nat), vs = [.ref p, .ref l, .int (n : Nat)] ∧ PotAt H p ∧ H l = some (.lst (cs.map lV)) ∧ LetOk cs ∧ cs ≠ [] ∧ 0 < n ∧ n ≤ 1000 ∧
  ∀ (a : Addr) (T : Tab) (H' : Hp), TabAt H' a T → WF T → T.length ≤ n → PX p H H' → Q (.ref a) H'
theorem scLawTable : FnScope ["_law_pot_here", "_law_letters_here", "_law_most", "_law_many", "_law_onward", "_law_found", "_law_k", "_law_row", "_law_letter"] ["_law_pot_here", "_law_letters_here", "_law_most"] (defScope sLawTable) := ⟨rfl, rfl, rfl, by decide +kernel, rfl, by decide +kernel, by decide +kernel⟩
section
variable {P : Program} {w : World} {K : PySem.W.Frag} {mg : Str → Option Value} {base : Heap} {C CT CN : Addr}
theorem ok_lawTable {f : Addr} {fd : FuncData} (Fn : Fun K "_law_table" "_law_table" sLawTable f fd) (TT : TX K mg) (D : Def P w K mg base CX0 1 "_law_take" ["_law_pot_here", "_law_many"] spTake) : FnOk P w K mg base CX0 2 f fd ["_law_pot_here", "_law_letters_here", "_law_most"] spLawTable := by
  refine Fn.ok scLawTable (fun vs H Q E h => ?_) (fun cdv A outer s H vs Q E hr h => ?_)
  · obtain ⟨p, l, cs, n, rfl, _⟩ := h
    rfl
  · obtain ⟨p, l, cs, n, rfl, hp, hl, hcs, hne, hn0, hn, k⟩ := h
    have hu := hu_of hr
    refine ⟨_, pss_cons (ps_set (i := 3) scLawTable.nd rfl (Or.inl rfl) (pe_op op_add pe_int (pe_callD D hr pass0 (pa_cons (pv 0) (pa_cons (pv 2) pa_nil)))))
      (pss_cons (ps_set (i := 4) scLawTable.nd rfl (Or.inl rfl) (pe_cmpR op_eq (pe_callD D hr pass0 (pa_cons (pv 0) (pa_cons pe_int pa_nil))) pe_int (nomark _)))
      (pss_cons (ps_set (i := 5) scLawTable.nd rfl (Or.inl rfl) (pe_lst pa_nil))
      (pss_cons (ps_for PassesOwn.never rfl (pi_range1 (by rfl) TT.range (pa_cons (pv 3) pa_nil)) (pg_name (i := 6) scLawTable.nd rfl (Or.inl rfl))
        (pss_cons (ps_set (i := 7) scLawTable.nd rfl (Or.inl rfl) pe_dnewK)
        (pss_cons (ps_for PassesOwn.never rfl (pi_list (pv 1)) (pg_name (i := 8) scLawTable.nd rfl (Or.inl rfl))
          (pss_one (ps_if (pt_cmpR op_gt (pe_callD D hr pass0 (pa_cons (pv 0) (pa_cons pe_int pa_nil))) pe_int (nomark _))
            (pss_one (ps_dput hu (pv 7) (pv 8) (pe_ix ix_list (pe_lst (pa_cons (pe_callD D hr pass0 (pa_cons (pv 0) (pa_cons (pv 3) pa_nil))) (pa_cons (pe_op op_mod (pe_op op_add (pv 6) pe_int) (pv 3)) pa_nil))) (pe_callTy call_int1 (by rfl) TT.int (by decide +kernel) (pa_cons (pv 4) pa_nil)) (fun _ _ => rfl)) rfl)) pss_nil)))
        (pss_cons (ps_if (pt_cmpR (op_eq_empty (Nat.lt_of_succ_lt hu)) (pv 7) pe_dnewK (nomark _))
          (pss_one (ps_dput hu (pv 7) (pe_ix ix_list (pv 1) (pe_callD D hr pass0 (pa_cons (pv 0) (pa_cons (pe_callB call_len_seq (by rfl) TT.len PySem.boot_len (pa_cons (pv 1) pa_nil)) pa_nil))) (fun _ _ => rfl)) (pe_callD D hr pass0 (pa_cons (pv 0) (pa_cons (pv 3) pa_nil))) rfl)) pss_nil)
        (pss_one (ps_expr (pe_bm PySem.F.plainAttrs_list PySem.F.slot_list_append PySem.F.type_list_append mt_append (pv 5) (pa_cons (pv 7) pa_nil))))))))
      (pss_one (ps_ret (pv 5)))))), ?_⟩
    refine ⟨_, rfl, _, rfl, p, _, rfl, hp, ⟨by omega, by omega⟩, fun d0 H1 hd0 px1 => ⟨_, _, rfl, rfl, ?_⟩⟩
    obtain ⟨m, hm⟩ : ∃ m : Nat, (1 : Int) + (d0 : Int) = (m : Int) := ⟨1 + d0, by omega⟩
    show gName 3 (V.int ((1 : Int) + (d0 : Int))) _ _ _
    rw [hm]
    have hm0 : 0 < m := by omega
    have hmn : m ≤ n := by omega
    refine ⟨_, rfl, p, _, rfl, px1.2, ⟨by omega, by omega⟩, fun d1 H2 hd1 px2 => ⟨rfl, Nat.zero_le _, fun fl nfl => ?_⟩⟩
    have px12 := px1.trans px2
    have nfl0 : H fl = none := by
      cases e : H fl with
      | none => rfl
      | some o =>
        have hne : fl ≠ p := fun z => by
          obtain ⟨c, q, hc⟩ := px2.2
          rw [z, hc] at nfl
          cases nfl
        rw [px12.1 fl o hne e] at nfl
        cases nfl
    have px3 := px12.put nfl0 hp (o := .lst [])
    refine ⟨_, rfl, (m : Int), rfl, by omega, by omega, ?_⟩
    refine for_range (lo := 0) (n := (m : Int).toNat) (fun kk σ H' => ∃ (v6 v7 v8 : Option V) (as : List Addr) (T : Tab), σ = [some (.ref p), some (.ref l), some (.int (n : Nat)), some (.int (m : Nat)), some (.bl (decide (V.int (d1 : Nat) = V.int 0))), some (.ref fl), v6, v7, v8] ∧ PX p H H' ∧
      H' fl = some (.lst (as.map V.ref)) ∧ Paired (RowAt H') as T ∧ T.length = kk ∧ ∀ r ∈ T, r ≠ [] ∧ RowOk cs m r) ⟨none, none, none, [], [], rfl, px3, upd_same, .nil, rfl, fun r hr => (nomatch hr)⟩ ?_ ?_
    · rintro kk σ H4 hkk ⟨v6, v7, v8, as, T, rfl, px, hfl, has, hT, hrows⟩
      have hkm : kk < m := by simpa using hkk
      intro rw_ nrw
      have hl4 := px.at_ hp hl fun _ _ => lV_not
      have nrw0 : H rw_ = none := by
        cases e : H rw_ with
        | none => rfl
        | some o =>
          have hne : rw_ ≠ p := fun z => by
            obtain ⟨c, q, hc⟩ := px.2
            rw [z, hc] at nrw
            cases nrw
          rw [px.1 rw_ o hne e] at nrw
          cases nrw
      have hflr : fl ≠ rw_ := ne_of_none hfl nrw
      have hasr : ∀ a r, RowAt H4 a r → a ≠ rw_ := fun a r q => ne_of_none (show H4 a = some (.dK (rowD r)) from q) nrw
      have hTl : as.length = kk := by rw [Paired.length has, hT]
      refine ⟨_, rfl, l, rfl, ⟨_, SqL.of (same_upd nrw _ _ hl4)⟩, ?_⟩
      refine for_list (K := K) (a := l) (xs := cs.map lV) (fun j σ H' => ∃ (v8 : Option V) (r : Row), σ = [some (.ref p), some (.ref l), some (.int (n : Nat)), some (.int (m : Nat)), some (.bl (decide (V.int (d1 : Nat) = V.int 0))), some (.ref fl), some (.int (0 + (kk : Nat))), some (.ref rw_), v8] ∧ PX p H H' ∧
        H' fl = some (.lst (as.map V.ref)) ∧ Paired (fun a r => RowAt H' a r ∧ a ≠ rw_) as T ∧ H' rw_ = some (.dK (rowD r)) ∧ RowOk (cs.take j) m r)
        ⟨v8, [], rfl, px.put nrw0 hp, by rw [upd_ne hflr]; exact hfl, paired_mono (fun a r q => ⟨same_upd nrw _ _ q, hasr a r q⟩) has, upd_same, ⟨List.nodup_nil, fun x hx => (nomatch hx)⟩⟩ (fun j σ H' _ ⟨_, _, _, q, _⟩ => SqL.of (q.at_ hp hl fun _ _ => lV_not)) ?_ ?_
      · rintro j x σ H5 hx ⟨v8, r, rfl, px5, hfl5, has5, hrw5, hok⟩
        rw [List.getElem?_map, Option.map_eq_some_iff] at hx
        obtain ⟨c, hc, rfl⟩ := hx
        have htk : cs.take (j + 1) = cs.take j ++ [c] := take_snoc hc
        have hcn : c ∉ cs.take j := fun hm => by
          have h1 := hcs.1
          rw [← List.take_append_drop (j + 1) cs, htk] at h1
          have := (List.nodup_append.mp (List.nodup_append.mp h1).1).2.2
          exact this c hm c (by simp) rfl
        have hrl : r.length ≤ 26 := by
          have h1 := nodup_sub_len hok.1 (m := cs) fun q hq => by
            obtain ⟨z, hz, e⟩ := List.mem_map.mp hq
            exact e ▸ List.mem_of_mem_take (hok.2 z hz).1
          rw [List.length_map] at h1
          exact Nat.le_trans h1 hcs.len
        refine ⟨_, rfl, p, _, rfl, px5.2, ⟨by decide, by decide⟩, fun d2 H6 hd2 px6 => ⟨_, _, rfl, rfl, _, rfl, ?_⟩⟩
        have keep : ∀ (Hx Hy : Hp), PX p Hx Hy → PotAt Hx p → Hx fl = some (.lst (as.map V.ref)) → Paired (fun a r => RowAt Hx a r ∧ a ≠ rw_) as T → Hx rw_ = some (.dK (rowD r)) → Hy fl = some (.lst (as.map V.ref)) ∧ Paired (fun a r => RowAt Hy a r ∧ a ≠ rw_) as T ∧ Hy rw_ = some (.dK (rowD r)) := fun Hx Hy q1 q2 q3 q4 q5 =>
          ⟨q1.at_ q2 q3 fun _ _ => refs_not, paired_mono (fun a r z => ⟨q1.at_ q2 z.1 fun _ _ y => (nomatch y), z.2⟩) q4, q1.at_ q2 q5 fun _ _ y => (nomatch y)⟩
        obtain ⟨hfl6, has6, hrw6⟩ := keep H5 H6 px6 px5.2 hfl5 has5 hrw5
        have px56 := px5.trans px6
        refine ite2 (fun hgt => ?_) (fun hle => ?_)
        · refine ⟨_, rfl, _, rfl, p, _, rfl, px56.2, ⟨by omega, by omega⟩, fun d3 H7 hd3 px7 => ?_⟩
          obtain ⟨hfl7, has7, hrw7⟩ := keep H6 H7 px7 px56.2 hfl6 has6 hrw6
          have px57 := px56.trans px7
          refine ⟨_, rfl, _, _, rfl, rfl, _, rfl, _, _, rfl, rfl, (by show (0 : Int) < (m : Int); omega), by show 2 ≤ sizeLine; decide, fun tmp ntmp => ?_⟩
          have e1 : ((0 + (kk : Int)) + 1) % (m : Int) = (((kk + 1) % m : Nat) : Int) := by
            rw [Int.zero_add]
            exact (Int.natCast_emod (kk + 1) m).symm
          simp only [e1]
          have ntmp0 : H tmp = none := by
            cases e : H tmp with
            | none => rfl
            | some o =>
              have hne : tmp ≠ p := fun z => by
                obtain ⟨c, q, hc⟩ := px57.2
                rw [z, hc] at ntmp
                cases ntmp
              rw [px57.1 tmp o hne e] at ntmp
              cases ntmp
          have px8 := px57.put ntmp0 hp (o := .lst [V.int (d3 : Nat), V.int (((kk + 1) % m : Nat) : Int)])
          have hv : ∃ v : Nat, v < m ∧ atI [V.int (d3 : Nat), V.int (((kk + 1) % m : Nat) : Int)] (if decide (V.int (d1 : Nat) = V.int 0) then (1 : Int) else 0) = some (V.int (v : Nat)) := by
            cases decide (V.int (d1 : Nat) = V.int 0) with
            | true => exact ⟨(kk + 1) % m, Nat.mod_lt _ hm0, rfl⟩
            | false => exact ⟨d3, by omega, rfl⟩
          obtain ⟨v, hvm, hat⟩ := hv
          have hrw8 : upd H7 tmp (.lst [V.int (d3 : Nat), V.int (((kk + 1) % m : Nat) : Int)]) rw_ = some (.dK (rowD r)) := same_upd ntmp _ _ hrw7
          have hcr : c ∉ r.map (·.1) := fun hm => by
            obtain ⟨z, hz, e⟩ := List.mem_map.mp hm
            exact hcn (e ▸ (hok.2 z hz).1)
          refine ⟨_, rfl, .inr ⟨_, rfl, tmp, _, _, _, rfl, rfl, SqL.of upd_same, hat, _, rfl, _, rfl, rw_, _, rfl, DPut.k (k := Sum.inr (lt c)) hrw8 (by rw [rowD_len]; exact Nat.lt_of_le_of_lt hrl (by decide)), ?_⟩⟩
          rw [putK_row hcr]
          refine ⟨some (lV c), r ++ [(c, v)], rfl, px8.put nrw0 hp, ?_, ?_, upd_same, by rw [htk]; exact hok.push hcn hvm⟩
          · rw [upd_ne hflr]
            exact same_upd ntmp _ _ hfl7
          · exact paired_mono (fun a r' z => ⟨by show upd _ _ _ a = _; rw [upd_ne z.2]; exact same_upd ntmp _ _ z.1, z.2⟩) has7
        · exact ⟨some (lV c), r, rfl, px56, hfl6, has6, hrw6, hok.mono fun q hq => by rw [htk]; exact List.mem_append_left _ hq⟩
      · rintro σ H5 ⟨v8, r, rfl, px5, hfl5, has5, hrw5, hok⟩
        rw [List.length_map, List.take_length] at hok
        have fin : ∀ (Hx : Hp) (r' : Row), PX p H Hx → Hx fl = some (.lst (as.map V.ref)) → Paired (fun a r => RowAt Hx a r ∧ a ≠ rw_) as T → Hx rw_ = some (.dK (rowD r')) → r' ≠ [] → RowOk cs m r' →
            PX p H (upd Hx fl (.lst (as.map V.ref ++ [.ref rw_]))) ∧ upd Hx fl (.lst (as.map V.ref ++ [.ref rw_])) fl = some (.lst ((as ++ [rw_]).map V.ref)) ∧ Paired (RowAt (upd Hx fl (.lst (as.map V.ref ++ [.ref rw_])))) (as ++ [rw_]) (T ++ [r']) ∧ (T ++ [r']).length = kk + 1 ∧ ∀ r ∈ T ++ [r'], r ≠ [] ∧ RowOk cs m r := fun Hx r' q1 q2 q3 q4 q5 q6 => by
          refine ⟨q1.put nfl0 hp, by rw [upd_same, List.map_append]; rfl, paired_snoc ?_ (paired_mono (fun a r z => ?_) q3), by rw [List.length_append, hT]; rfl, fun r hr => ?_⟩
          · show upd Hx fl _ rw_ = _
            rw [upd_ne hflr.symm]
            exact q4
          · show upd Hx fl _ a = _
            have z1 : Hx a = some (.dK (rowD r)) := z.1
            rw [upd_ne (ne_of z1 q2 (fun y => nomatch y))]
            exact z1
          · rcases List.mem_append.mp hr with h | h
            · exact hrows r h
            · have e : r = r' := by simpa using h
              subst e
              exact ⟨q5, q6⟩
        have hasl : (as.map V.ref).length < sizeLine := by
          rw [List.length_map, hTl]
          exact Nat.lt_of_lt_of_le hkm (Nat.le_trans hmn (Nat.le_trans hn (by decide)))
        refine ⟨_, rfl, fun d nd => ⟨rw_, d, rowD r, rfl, rfl, same_upd nd _ _ hrw5, upd_same, _, rfl, ?_⟩⟩
        have nd0 : H d = none := by
          cases e : H d with
          | none => rfl
          | some o =>
            have hne : d ≠ p := fun z => by
              obtain ⟨c, q, hc⟩ := px5.2
              rw [z, hc] at nd
              cases nd
            rw [px5.1 d o hne e] at nd
            cases nd
        have px6 := px5.put nd0 hp (o := .dK [])
        have hfl6 := same_upd nd (o := .dK []) _ _ hfl5
        have hrw6 := same_upd nd (o := .dK []) _ _ hrw5
        have has6 : Paired (fun a r => RowAt (upd H5 d (.dK [])) a r ∧ a ≠ rw_) as T := paired_mono (fun a r z => ⟨same_upd nd _ _ z.1, z.2⟩) has5
        by_cases hr0 : r = []
        · subst hr0
          have e0 : decide (rowD [] = []) = true := decide_eq_true rfl
          rw [e0]
          have keep : ∀ (Hx Hy : Hp), PX p Hx Hy → PotAt Hx p → Hx fl = some (.lst (as.map V.ref)) → Paired (fun a r => RowAt Hx a r ∧ a ≠ rw_) as T → Hx rw_ = some (.dK (rowD [])) → Hy fl = some (.lst (as.map V.ref)) ∧ Paired (fun a r => RowAt Hy a r ∧ a ≠ rw_) as T ∧ Hy rw_ = some (.dK (rowD [])) := fun Hx Hy q1 q2 q3 q4 q5 =>
            ⟨q1.at_ q2 q3 fun _ _ => refs_not, paired_mono (fun a r z => ⟨q1.at_ q2 z.1 fun _ _ y => (nomatch y), z.2⟩) q4, q1.at_ q2 q5 fun _ _ y => (nomatch y)⟩
          have hcl : 0 < cs.length := List.length_pos_iff.mpr hne
          have hc26 := hcs.len
          refine iteT ⟨_, rfl, _, rfl, p, _, rfl, px6.2, ⟨by omega, by omega⟩, fun d4 H7 hd4 px7 => ?_⟩
          obtain ⟨hfl7, has7, hrw7⟩ := keep _ H7 px7 px6.2 hfl6 has6 hrw6
          have px67 := px6.trans px7
          have hl7 := px67.at_ hp hl fun _ _ => lV_not
          refine ⟨_, rfl, _, rfl, _, rfl, _, rfl, l, _, rfl, .inl (SqL.of hl7), p, _, rfl, px67.2, ⟨by rw [List.length_map]; omega, by rw [List.length_map]; omega⟩, fun d5 H8 hd5 px8 => ?_⟩
          obtain ⟨hfl8, has8, hrw8⟩ := keep H7 H8 px8 px67.2 hfl7 has7 hrw7
          have px68 := px67.trans px8
          have hl8 := px68.at_ hp hl fun _ _ => lV_not
          have hd5' : d5 < cs.length := by rw [List.length_map] at hd5; omega
          have hg5 : (cs.map lV)[d5]? = some (lV cs[d5]) := by rw [List.getElem?_map, List.getElem?_eq_getElem hd5']; rfl
          have hDP : DPut H8 rw_ (lV cs[d5]) (V.int (d4 : Nat)) (upd H8 rw_ (.dK (putK (rowD []) (Sum.inr (lt cs[d5])) (V.int (d4 : Nat))))) := DPut.k (k := Sum.inr (lt cs[d5])) hrw8 (by show 0 < sizeLine; decide)
          rw [putK_row (by simp)] at hDP
          have fin9 := fin (upd H8 rw_ (.dK (rowD ([] ++ [(cs[d5], d4)])))) ([] ++ [(cs[d5], d4)]) (px68.put nrw0 hp) (by rw [upd_ne hflr]; exact hfl8) (paired_mono (fun a r' z => ⟨by show upd _ _ _ a = _; rw [upd_ne z.2]; exact z.1, z.2⟩) has8) upd_same (by simp)
            ⟨by simp, fun x hx => by
              have e : x = (cs[d5], d4) := by simpa using hx
              subst e
              exact ⟨List.getElem_mem hd5', by omega⟩⟩
          refine ⟨l, _, _, _, rfl, rfl, SqL.of hl8, atI_nat hg5, rw_, _, rfl, hDP, ?_⟩
          have hfl9 : upd H8 rw_ (.dK (rowD ([] ++ [(cs[d5], d4)]))) fl = some (.lst (as.map V.ref)) := by rw [upd_ne hflr]; exact hfl8
          exact ⟨_, rfl, .inl ⟨rfl, _, SqL.of hfl9⟩, _, rfl, fl, _, _, rfl, rfl, hfl9, hasl, _, _, _, _, _, rfl, fin9⟩
        · have e0 : decide (rowD r = []) = false := decide_eq_false fun q => hr0 (List.map_eq_nil_iff.mp q)
          rw [e0]
          exact iteF ⟨_, rfl, .inl ⟨rfl, _, SqL.of hfl6⟩, _, rfl, fl, _, _, rfl, rfl, hfl6, hasl, _, _, _, _, _, rfl, fin _ r px6 hfl6 has6 hrw6 hr0 hok⟩
    · rintro σ H4 ⟨v6, v7, v8, as, T, rfl, px, hfl, has, hT, hrows⟩
      have hTm : T.length = m := by simpa using hT
      refine ⟨_, rfl, k fl T H4 ⟨as, hfl, has⟩ ⟨by omega, fun r hr => ?_⟩ (by omega) px⟩
      obtain ⟨h1, h2⟩ := hrows r hr
      exact ⟨h1, h2.1, fun x hx => ⟨hcs.2 _ (h2.2 x hx).1, by rw [hTm]; exact (h2.2 x hx).2⟩⟩
end
end KW
/-! KwD15: _law_both, _law_either, _law_alike. -/
namespace KW
open PySem PySem.Spec PyProof.Rows L2
abbrev sLBoth : Stmt := top 39
abbrev sLEither : Stmt := top 40
abbrev sLAlike : Stmt := top 41
/-- a kind, or None -/
def OptK (C : Addr) (H : Hp) (v : V) : Option Tab → Prop
  | none => v = .non
  | some T => ∃ k, v = .ref k ∧ KAt C H k T
theorem OptK.same {C : Addr} {H H' : Hp} {v : V} {r : Option Tab} (h : OptK C H v r) (s : Same H H') : OptK C H' v r := by
  cases r with
  | none => exact h
  | some T =>
    obtain ⟨k, h1, h2⟩ := h
    exact ⟨k, h1, h2.same s⟩
theorem OptK.non {C : Addr} {H : Hp} {v : V} {r : Option Tab} (h : OptK C H v r) : decide (v = .non) = r.isNone := by
  cases r with
  | none =>
    have h' : v = .non := h
    subst h'
    exact decide_eq_true rfl
  | some T =>
    obtain ⟨k, h1, h2⟩ := h
    subst h1
    exact decide_eq_false (fun q => nomatch q)
/-- what both gives -/
def BR (T U : Tab) : Option Tab → Prop
  | none => ¬ Both T U []
  | some W => Both T U [] ∧ ∃ Pp, MadeB T U Pp W ∧ Pp.length ≤ 400
theorem BR.words {T U W : Tab} (h : BR T U (some W)) (w : List Nat) : Of W w ↔ Both T U w := by
  obtain ⟨_, Pp, hm, _⟩ := h
  exact madeB_of hm w
def spLBoth (C : Addr) : Sp := fun vs H Q _ => ∃ (a b : Addr) (T U : Tab), vs = [.ref a, .ref b] ∧ KAt C H a T ∧ KAt C H b U ∧ T.length ≤ 700 ∧ U.length ≤ 700 ∧
  (∀ Pp : List PK, Pp.Nodup → (∀ p, p ∈ Pp ↔ Reach (dB T U) pk0 p ∧ Goes (dB T U) p) → Pp.length ≤ 400) ∧ ∀ v r H', Same H H' → OptK C H' v r → BR T U r → Q v H'
/-- what either gives of two that may be None -/
def ER : Option Tab → Option Tab → Option Tab → Prop
  | some T, some U, r => ∃ W, r = some W ∧ ∃ Pp, MadeE T U Pp W ∧ Pp.length ≤ 400
  | some T, none, r => r = some T
  | none, x, r => r = x
def spLEither (C : Addr) : Sp := fun vs H Q _ => ∃ (v u : V) (r q : Option Tab), vs = [v, u] ∧ OptK C H v r ∧ OptK C H u q ∧ (∀ T U, r = some T → q = some U → T.length ≤ 700 ∧ U.length ≤ 700 ∧ ∀ Pp : List PK, Pp.Nodup → (∀ p, p ∈ Pp ↔ Reach (dE T U) pk0 p ∧ True) → Pp.length ≤ 400) ∧
  ∀ z x H', Same H H' → OptK C H' z x → ER r q x → Q z H'
def spLAlike (C : Addr) : Sp := fun vs H Q _ => ∃ (v u : V) (r q : Option Tab), vs = [v, u] ∧ OptK C H v r ∧ OptK C H u q ∧ (r = none ↔ q = none) ∧ (∀ T U, r = some T → q = some U → ∀ w, Of T w ↔ Of U w) ∧ ∀ H', Same H H' → Q (.bl true) H'
section
variable (P : Program) (w : World) (K : PySem.W.Frag) (mg : Str → Option Value) (base : Heap)
/-- the class's __eq__ keeps its promise -/
structure DefE (C : Addr) : Prop where
  ex : ∃ f fd, FnOk P w K mg base CX0 3 f fd ["self", "other"] (spEq (Alike C)) ∧ PySem.W.findIn K (.ref C) "__eq__" = some (some (.ref f)) ∧ PySem.W.isFn K (.ref f) = true ∧ Binds K fd ["self", "other"] []
end
theorem op_eqK {X : Cx} {C : Addr} {k : Nat} (D : DefE X.prog X.w X.K X.mg X.base C) (hr : Room k X.A) (h : 3 ≤ k := by decide) : OpR X (compareOp .Eq) (rEqG (DIns C (Alike C))) := by
  obtain ⟨f, fd, F, hs, hf, hb⟩ := D.ex
  exact op_eqG (rcG_ins F hs hf hb pass0) (hr.mono h)
theorem dins_of {C a b : Addr} {H : Hp} {T U : Tab} (hA : KAt C H a T) (hB : KAt C H b U) (eq : ∀ w, Of T w ↔ Of U w) : DIns C (Alike C) (.ref a) (.ref b) H := by
  obtain ⟨⟨dx, l, h1, _⟩, _⟩ := id hA
  obtain ⟨⟨dy, m, h2, _⟩, _⟩ := id hB
  exact ⟨a, b, dx, dy, _, _, rfl, rfl, h1, h2, T, U, hA, hB, eq⟩
theorem scLBoth : FnScope ["_law_kind", "_law_other", "_law_found"] ["_law_kind", "_law_other"] (defScope sLBoth) := ⟨rfl, rfl, rfl, by decide +kernel, rfl, by decide +kernel, by decide +kernel⟩
theorem scLEither : FnScope ["_law_some", "_law_other"] ["_law_some", "_law_other"] (defScope sLEither) := ⟨rfl, rfl, rfl, by decide +kernel, rfl, by decide +kernel, by decide +kernel⟩
theorem scLAlike : FnScope ["_law_some", "_law_other"] ["_law_some", "_law_other"] (defScope sLAlike) := ⟨rfl, rfl, rfl, by decide +kernel, rfl, by decide +kernel, by decide +kernel⟩
section
variable {P : Program} {w : World} {K : PySem.W.Frag} {mg : Str → Option Value} {base : Heap} {C CT CN : Addr}
theorem ok_lBoth {f : Addr} {fd : FuncData} (Fn : Fun K "_law_both" "_law_both" sLBoth f fd) (TN : TE1 K mg "NoWeather" CN) (eN : PySem.W.exmOne K (.ref CN) (.ref CN) = some true)
    (D : Def P w K mg base (L2.CX P w) 8 "both_kinds" ["kind", "other"] (spBothK C CN CT)) : FnOk P w K mg base CX0 9 f fd ["_law_kind", "_law_other"] (spLBoth C) := by
  refine Fn.ok scLBoth (fun vs H Q E h => ?_) (fun cdv A outer s H vs Q E hr h => ?_)
  · obtain ⟨a, b, T, U, rfl, _⟩ := h
    rfl
  · obtain ⟨a, b, T, U, rfl, hA, hB, l1, l2, hfew, k⟩ := h
    refine ⟨_, pss_cons (ps_set (i := 2) scLBoth.nd rfl (Or.inl rfl) pe_non)
      (pss_cons (ps_try_only (tb := fun W => tAsg (tCallS (spBothK C CN CT) (WE W) (tCons (tVar 0) (tCons (tVar 1) tNil))) (gName 2)) (ts := fun _ _ _ => tAsg (tC .non) (gName 2)) (Wout := fun _ _ _ _ => False) rfl rfl ⟨rfl, by decide, Or.inl TN.gP⟩ takes0
        (fun W pn xe tk _ => pss_one (ps_set (i := 2) scLBoth.nd rfl (Or.inl rfl) (by exact (pe_callX D hr (fun σ => passAt tk σ) (by exact (pa_cons (pv 0) (pa_cons (pv 1) pa_nil)))))))
        (fun a oe cls d pn _ _ => pss_one (ps_set (i := 2) scLBoth.nd rfl (Or.inl rfl) pe_non)))
      (pss_one (ps_ret (pv 2)))), ?_⟩
    refine ⟨_, rfl, _, rfl, a, b, T, U, rfl, hA, hB, l1, l2, fun hno H' s1 => ?_, fun Pp H' hn hm h400 _ => ?_, fun Pp W kk H' hm h400 hb s1 hk => ?_⟩
    · exact ⟨true, eN, fun _ x hx => ⟨_, rfl, k .non none H' s1 rfl hno⟩, fun q => nomatch q⟩
    · have := hfew Pp hn hm
      omega
    · exact ⟨_, rfl, k (.ref kk) (some W) H' s1 ⟨kk, rfl, hk⟩ ⟨hb, Pp, hm, h400⟩⟩
theorem ok_lEither {f : Addr} {fd : FuncData} (Fn : Fun K "_law_either" "_law_either" sLEither f fd) (TT : TX K mg)
    (D : Def P w K mg base (L2.CX P w) 8 "either_kind" ["kind", "other"] (spEitherK C CT)) : FnOk P w K mg base CX0 9 f fd ["_law_some", "_law_other"] (spLEither C) := by
  refine Fn.ok scLEither (fun vs H Q E h => ?_) (fun cdv A outer s H vs Q E hr h => ?_)
  · obtain ⟨v, u, r, q, rfl, _⟩ := h
    rfl
  · obtain ⟨v, u, r, q, rfl, hv, hq, hfew, k⟩ := h
    refine ⟨_, pss_cons (ps_if (PW.pt (pw_or (pt_cmpR op_isN (pv 0) pe_non (nomark _)) (pw_or1 (pt_cmpR op_isN (pv 1) pe_non (nomark _)))))
        (pss_one (ps_ret (pe_ix ix_list (pe_lst (pa_cons (pv 0) (pa_cons (pv 1) pa_nil))) (pe_callTy call_int1 (by rfl) TT.int (by decide +kernel) (pa_cons (pe_cmpR op_isN (pv 0) pe_non (nomark _)) pa_nil)) (fun _ _ => rfl)))) pss_nil)
      (pss_one (ps_ret (pe_callD D hr passL (pa_cons (pv 0) (pa_cons (pv 1) pa_nil))))), ?_⟩
    have pick : ∀ z x, OptK C H z x → ER r q x → atI [v, u] (if decide (v = .non) = true then (1 : Int) else 0) = some z → ∀ p, H p = none →
        ∃ p_1 xs i v_1, V.ref p = V.ref p_1 ∧ V.int (if decide (v = .non) = true then (1 : Int) else 0) = V.int i ∧ SqL K (upd H p (.lst [v, u])) p_1 xs ∧ atI xs i = some v_1 ∧ Q v_1 (upd H p (.lst [v, u])) := fun z x hz he ha p hp =>
      ⟨p, _, _, z, rfl, rfl, SqL.of upd_same, ha, k z x _ (same_upd hp) (hz.same (same_upd hp)) he⟩
    refine ⟨_, rfl, rfl, _, rfl, ?_⟩
    rw [hv.non]
    cases r with
    | none =>
      have ev : decide (v = .non) = true := hv.non
      refine iteT (iteT ⟨_, rfl, _, rfl, by show 2 ≤ sizeLine; decide, fun p hp => ⟨_, rfl, rfl, .inr ⟨_, rfl, pick u q hq rfl ?_ p hp⟩⟩⟩)
      rw [ev]
      rfl
    | some T =>
      have ev : decide (v = .non) = false := hv.non
      refine iteF ⟨_, rfl, rfl, _, rfl, ?_⟩
      rw [hq.non]
      cases q with
      | none =>
        refine iteT ⟨_, rfl, _, rfl, by show 2 ≤ sizeLine; decide, fun p hp => ⟨_, rfl, rfl, .inr ⟨_, rfl, pick v (some T) hv rfl ?_ p hp⟩⟩⟩
        rw [ev]
        rfl
      | some U =>
        obtain ⟨a, rfl, hA⟩ := hv
        obtain ⟨b, rfl, hB⟩ := hq
        obtain ⟨l1, l2, hf⟩ := hfew T U rfl rfl
        refine iteF ⟨_, rfl, _, rfl, a, b, T, U, rfl, hA, hB, l1, l2, fun Pp H' hn hm h400 _ => ?_, fun Pp W kk H' hm h400 s1 hk => ?_⟩
        · have := hf Pp hn hm
          omega
        · exact k (.ref kk) (some W) H' s1 ⟨kk, rfl, hk⟩ ⟨W, rfl, Pp, hm, h400⟩
theorem ok_lAlike {f : Addr} {fd : FuncData} (Fn : Fun K "_law_alike" "_law_alike" sLAlike f fd) (DE : DefE P w K mg base C) : FnOk P w K mg base CX0 4 f fd ["_law_some", "_law_other"] (spLAlike C) := by
  refine Fn.ok scLAlike (fun vs H Q E h => ?_) (fun cdv A outer s H vs Q E hr h => ?_)
  · obtain ⟨v, u, r, q, rfl, _⟩ := h
    rfl
  · obtain ⟨v, u, r, q, rfl, hv, hq, hn, heq, k⟩ := h
    refine ⟨_, pss_cons (ps_if (PW.pt (pw_or (pt_cmpR op_isN (pv 0) pe_non (nomark _)) (pw_or1 (pt_cmpR op_isN (pv 1) pe_non (nomark _)))))
        (pss_one (ps_ret (pe_and (pe_cmpR op_isN (pv 0) pe_non (nomark _)) (pe_one (pe_cmpR op_isN (pv 1) pe_non (nomark _)))))) pss_nil)
      (pss_one (ps_ret (pe_cmpR (op_eqK DE hr) (pv 0) (pv 1) (nomark _)))), ?_⟩
    refine ⟨_, rfl, rfl, _, rfl, ?_⟩
    rw [hv.non]
    cases r with
    | none =>
      obtain rfl : q = none := hn.mp rfl
      have ev : decide (v = .non) = true := hv.non
      have eu : decide (u = .non) = true := hq.non
      refine iteT (iteT ⟨_, rfl, rfl, _, rfl, ?_⟩)
      rw [ev]
      refine iteT ⟨_, rfl, rfl, ?_⟩
      rw [eu]
      exact k H (Same.refl H)
    | some T =>
      refine iteF ⟨_, rfl, rfl, _, rfl, ?_⟩
      rw [hq.non]
      cases q with
      | none => exact absurd (hn.mpr rfl) (by simp)
      | some U =>
        obtain ⟨a, rfl, hA⟩ := hv
        obtain ⟨b, rfl, hB⟩ := hq
        exact iteF ⟨_, rfl, _, rfl, dins_of hA hB (heq T U rfl rfl), fun H' e => k H' e⟩
end
end KW
/-! KwD16: _law_together. -/
namespace KW
open PySem PySem.Spec PyProof.Rows L2
abbrev sTog : Stmt := top 42
theorem scal_res (r q : Option (List Nat)) : scal (resV r) (resV q) = true := by cases r <;> cases q <;> rfl
/-- T's weathers are U's: none is beyond -/
theorem beyond_sub {T U : Tab} (h : ∀ w, Of T w → Of U w) {r : Option (List Nat)} (hr : Beyond T U r) : r = none := hr.none_iff.mpr h
theorem both_nil {T : Tab} (h : WF T) : Both T T [] := (both_self h []).mpr rfl
theorem br_none {T U : Tab} {r : Option Tab} (h : BR T U r) : r = none ↔ ¬ Both T U [] := by
  cases r with
  | none => exact ⟨fun _ => h, fun _ => rfl⟩
  | some W => exact ⟨fun q => (by cases q), fun q => (q h.1).elim⟩
theorem br_same {T U T' U' : Tab} {r q : Option Tab} (h : BR T U r) (h' : BR T' U' q) (e : ∀ w, Both T U w ↔ Both T' U' w) : (r = none ↔ q = none) ∧ ∀ X Y, r = some X → q = some Y → ∀ w, Of X w ↔ Of Y w := by
  refine ⟨by rw [br_none h, br_none h', e], fun X Y h1 h2 w => ?_⟩
  subst h1 h2
  rw [h.words, h'.words, e]
theorem er_law {A B D W : Tab} {r ra rb x : Option Tab} (hW : ∀ w, Of W w ↔ Of A w ∨ Of B w) (h : BR W D r) (ha : BR A D ra) (hb : BR B D rb) (hx : ER ra rb x) : (r = none ↔ x = none) ∧ ∀ X Y, r = some X → x = some Y → ∀ w, Of X w ↔ Of Y w := by
  have key := both_either (C := D) hW
  have no : ∀ {T : Tab}, ¬ Both T D [] → ∀ w, ¬ Both T D w := fun h w q => h q.start
  cases ra with
  | none =>
    have hx' : x = rb := hx
    subst hx'
    exact br_same h hb fun w => by rw [key w]; exact ⟨fun q => q.resolve_left (no ha w), .inr⟩
  | some T =>
    cases rb with
    | none =>
      have hx' : x = some T := hx
      subst hx'
      exact br_same h ha fun w => by rw [key w]; exact ⟨fun q => q.resolve_right (no hb w), .inl⟩
    | some U =>
      obtain ⟨Z, hZ, Pp, hm, _⟩ := hx
      subst hZ
      refine ⟨⟨fun q => ?_, fun q => (by cases q)⟩, fun X Y h1 h2 w => ?_⟩
      · exact ((br_none h).mp q ((key []).mpr (.inl ha.1))).elim
      · subst h1
        cases h2
        rw [h.words, madeE_of hm, ha.words, hb.words, key w]
theorem few_B {T U : Tab} (hT : WF T) (hU : WF U) (h : T.length * U.length ≤ 400) (Pp : List PK) (hn : Pp.Nodup) (hm : ∀ p, p ∈ Pp ↔ Reach (dB T U) pk0 p ∧ Goes (dB T U) p) : Pp.length ≤ 400 :=
  Nat.le_trans (lenB hT hU hn fun p hp => ((hm p).mp hp).1) h
theorem few_E {T U : Tab} (hT : WF T) (hU : WF U) (h : (T.length + 1) * (U.length + 1) ≤ 400) (Pp : List PK) (hn : Pp.Nodup) (hm : ∀ p, p ∈ Pp ↔ Reach (dE T U) pk0 p ∧ True) : Pp.length ≤ 400 :=
  Nat.le_trans (lenE hT hU hn fun p hp => ((hm p).mp hp).1) h
theorem mul_le {a b m n k : Nat} (h1 : a ≤ m) (h2 : b ≤ n) (h : m * n ≤ k) : a * b ≤ k := Nat.le_trans (Nat.mul_le_mul h1 h2) h
def spTog (C : Addr) : Sp := fun vs H Q _ => ∃ (l a b c : Addr) (A B D : Tab), vs = [.ref l] ∧ H l = some (.lst [.ref a, .ref b, .ref c]) ∧ KAt C H a A ∧ KAt C H b B ∧ KAt C H c D ∧ A.length ≤ 5 ∧ B.length ≤ 5 ∧ D.length ≤ 5 ∧ ∀ H', Same H H' → Q (.bl true) H'
theorem scTog : FnScope ["_law_kinds", "_law_a", "_law_b", "_law_c", "_law_wide", "_law_close", "_law_one"] ["_law_kinds"] (defScope sTog) := ⟨rfl, rfl, rfl, by decide +kernel, rfl, by decide +kernel, by decide +kernel⟩
section
variable {P : Program} {w : World} {K : PySem.W.Frag} {mg : Str → Option Value} {base : Heap} {C CT CN : Addr}
theorem ok_tog {f : Addr} {fd : FuncData} (Fn : Fun K "_law_together" "_law_together" sTog f fd) (DE : DefE P w K mg base C) (Dy : Def P w K mg base CX0 3 "beyond" ["kind", "other"] (spBeyond C))
    (Db : Def P w K mg base (L2.CX P w) 8 "both_kinds" ["kind", "other"] (spBothK C CN CT)) (De : Def P w K mg base (L2.CX P w) 8 "either_kind" ["kind", "other"] (spEitherK C CT))
    (Lb : Def P w K mg base CX0 9 "_law_both" ["_law_kind", "_law_other"] (spLBoth C)) (Le : Def P w K mg base CX0 9 "_law_either" ["_law_some", "_law_other"] (spLEither C)) (La : Def P w K mg base CX0 4 "_law_alike" ["_law_some", "_law_other"] (spLAlike C)) :
    FnOk P w K mg base CX0 10 f fd ["_law_kinds"] (spTog C) := by
  refine Fn.ok scTog (fun vs H Q E h => ?_) (fun cdv A outer s H vs Q E hr h => ?_)
  · obtain ⟨l, a, b, c, _, _, _, rfl, _⟩ := h
    rfl
  · obtain ⟨l, a, b, c, TA, TB, TD, rfl, hl, hA, hB, hD, lA, lB, lD, k⟩ := h
    have hu64 := hr.units
    refine ⟨_, pss_cons (ps_asg (pv 0) (pg_unl rfl (pgs_cons (pg_name (i := 1) scTog.nd rfl (Or.inl rfl)) (pgs_cons (pg_name (i := 2) scTog.nd rfl (Or.inl rfl)) (pgs_cons (pg_name (i := 3) scTog.nd rfl (Or.inl rfl)) pgs_nil)))))
      (pss_cons (ps_set (i := 4) scTog.nd rfl (Or.inl rfl) (pe_callD De hr passL (pa_cons (pv 1) (pa_cons (pv 2) pa_nil))))
      (pss_cons (ps_set (i := 5) scTog.nd rfl (Or.inr rfl) (pe_callD Lb hr pass0 (pa_cons (pv 1) (pa_cons (pv 2) pa_nil))))
      (pss_cons (ps_if (PW.pt (pw_or (pt_cmpR op_notN (pe_callD Dy hr pass0 (pa_cons (pv 1) (pa_cons (pv 4) pa_nil))) pe_non (nomark _)) (pw_or1 (pt_cmpR op_notN (pe_callD Dy hr pass0 (pa_cons (pv 2) (pa_cons (pv 4) pa_nil))) pe_non (nomark _)))))
        (pss_one (ps_ret pe_bl)) pss_nil)
      (pss_cons (ps_if (PW.pt (pw_or (pt_cmpR op_ne (pe_callD Dy hr pass0 (pa_cons (pv 4) (pa_cons (pv 1) pa_nil))) (pe_callD Dy hr pass0 (pa_cons (pv 2) (pa_cons (pv 1) pa_nil))) (nomark _))
          (pw_or1 (pt_cmpR op_ne (pe_callD Dy hr pass0 (pa_cons (pv 4) (pa_cons (pv 2) pa_nil))) (pe_callD Dy hr pass0 (pa_cons (pv 1) (pa_cons (pv 2) pa_nil))) (nomark _)))))
        (pss_one (ps_ret pe_bl)) pss_nil)
      (pss_cons (ps_if (PW.pt (pw_and (pt_cmpR op_notN (pv 5) pe_non (nomark _)) (pw_and1 (pt_cmpR (op_neD hu64) (pe_lc (own := [("_law_one", 6)]) (g := gName 6) (tt := tYes) rfl scTog.nd (pi_list (pe_lst (pa_cons (pv 1) (pa_cons (pv 2) (pa_cons (pv 4) pa_nil)))))
            (blkOk_by (N := ["_law_kinds", "_law_a", "_law_b", "_law_c", "_law_wide", "_law_close", "_law_one"]) (sc := defScope sTog) (by decide +kernel)) (fun _ _ _ _ _ => pg_name (i := 6) scTog.nd rfl (Or.inl rfl)) (fun _ _ _ _ _ => pts_nil)
            (fun _ _ _ _ _ => pe_callD Dy hr pass0 (pa_cons (pv 5) (pa_cons (pv 6) pa_nil)))) (pe_lst (pa_cons pe_non (pa_cons pe_non (pa_cons pe_non pa_nil)))) (nomark _)))))
        (pss_one (ps_ret pe_bl)) pss_nil)
      (pss_cons (ps_if (PW.pt (pw_or (pt_not (pt_cmpR (op_eqK DE hr) (pe_callD Db hr passL (pa_cons (pv 1) (pa_cons (pv 1) pa_nil))) (pv 1) (nomark _)))
          (pw_or (pt_not (pt_cmpR (op_eqK DE hr) (pe_callD De hr passL (pa_cons (pv 2) (pa_cons (pv 2) pa_nil))) (pv 2) (nomark _)))
          (pw_or1 (pt_not (pt_cmpR (op_eqK DE hr) (pe_callD De hr passL (pa_cons (pv 2) (pa_cons (pv 1) pa_nil))) (pv 4) (nomark _)))))))
        (pss_one (ps_ret pe_bl)) pss_nil)
      (pss_cons (ps_if (pt_not (pt_val (pe_callD La hr pass0 (pa_cons (pe_callD Lb hr pass0 (pa_cons (pv 2) (pa_cons (pv 1) pa_nil))) (pa_cons (pv 5) pa_nil))))) (pss_one (ps_ret pe_bl)) pss_nil)
      (pss_one (ps_ret (pe_callD La hr pass0 (pa_cons (pe_callD Lb hr pass0 (pa_cons (pv 4) (pa_cons (pv 3) pa_nil))) (pa_cons (pe_callD Le hr pass0 (pa_cons (pe_callD Lb hr pass0 (pa_cons (pv 1) (pa_cons (pv 3) pa_nil))) (pa_cons (pe_callD Lb hr pass0 (pa_cons (pv 2) (pa_cons (pv 3) pa_nil))) pa_nil))) pa_nil)))))))))))), ?_⟩
    have hNN : (!decide (resV none = V.non)) = false := by rw [resV_none]; rfl
    refine ⟨_, rfl, l, _, rfl, SqL.of hl, rfl, _, _, rfl, _, _, rfl, _, _, rfl, rfl, ?_⟩
    refine ⟨_, rfl, _, rfl, a, b, TA, TB, rfl, hA, hB, by omega, by omega, fun Pp _ hn hm h400 _ => absurd (few_E hA.wf hB.wf (mul_le (Nat.succ_le_succ lA) (Nat.succ_le_succ lB) (by decide)) Pp hn hm) (by omega), fun PW W kw H1 hmW hPW s1 hW => ?_⟩
    have lW : W.length ≤ 36 := by
      rw [hmW.len]
      exact Nat.le_trans (lenE hA.wf hB.wf hmW.nodup fun p hp => ((hmW.mem p).mp hp).1) (mul_le (Nat.succ_le_succ lA) (Nat.succ_le_succ lB) (by decide))
    have oW := madeE_of hmW
    refine ⟨_, rfl, _, rfl, a, b, TA, TB, rfl, hA.same s1, hB.same s1, by omega, by omega, few_B hA.wf hB.wf (mul_le lA lB (by decide)), fun vc rc H2 s2 hc hBR => ?_⟩
    have s12 : Same H H2 := s1.trans s2
    -- none of a, b beyond wide
    refine ⟨_, rfl, _, rfl, a, kw, TA, W, rfl, hA.same s12, hW.same s2, fun r1 H3 s3 hb1 => ?_⟩
    obtain rfl := beyond_sub (fun w h => (oW w).mpr (.inl h)) hb1
    refine ⟨rfl, _, rfl, ?_⟩
    rw [hNN]
    refine iteF ⟨_, rfl, _, rfl, b, kw, TB, W, rfl, (hB.same s12).same s3, (hW.same s2).same s3, fun r2 H4 s4 hb2 => ?_⟩
    obtain rfl := beyond_sub (fun w h => (oW w).mpr (.inr h)) hb2
    refine ⟨rfl, _, rfl, ?_⟩
    rw [hNN]
    refine iteF ?_
    have s24 : Same H2 H4 := s3.trans s4
    have s14 : Same H H4 := s12.trans s24
    -- beyond(wide, a) = beyond(b, a)
    refine ⟨_, rfl, _, rfl, kw, a, W, TA, rfl, (hW.same s2).same s24, hA.same s14, fun r3 H5 s5 hb3 => ?_⟩
    refine ⟨_, rfl, _, rfl, b, a, TB, TA, rfl, (hB.same s14).same s5, (hA.same s14).same s5, fun r4 H6 s6 hb4 => ?_⟩
    obtain rfl := hb3.unique hb4 fun w => by
      rw [oW w]
      exact ⟨fun q => ⟨q.1.resolve_left q.2, q.2⟩, fun q => ⟨.inr q.1, q.2⟩⟩
    have e3 : (!decide (resV r3 = resV r3)) = false := by simp
    refine ⟨scal_res _ _, _, rfl, ?_⟩
    rw [e3]
    have s26 : Same H2 H6 := (s24.trans s5).trans s6
    have s16 : Same H H6 := s12.trans s26
    refine iteF ⟨_, rfl, _, rfl, kw, b, W, TB, rfl, (hW.same s2).same s26, hB.same s16, fun r5 H7 s7 hb5 => ?_⟩
    refine ⟨_, rfl, _, rfl, a, b, TA, TB, rfl, (hA.same s16).same s7, (hB.same s16).same s7, fun r6 H8 s8 hb6 => ?_⟩
    obtain rfl := hb5.unique hb6 fun w => by
      rw [oW w]
      exact ⟨fun q => ⟨q.1.resolve_right q.2, q.2⟩, fun q => ⟨.inl q.1, q.2⟩⟩
    have e5 : (!decide (resV r5 = resV r5)) = false := by simp
    refine ⟨scal_res _ _, _, rfl, ?_⟩
    rw [e5]
    refine iteF ?_
    have s28 : Same H2 H8 := (s26.trans s7).trans s8
    have s18 : Same H H8 := s12.trans s28
    -- close within all
    refine ⟨_, rfl, rfl, _, rfl, ?_⟩
    rw [hc.non]
    cases rc with
    | none =>
      refine iteF (iteF ?_)
      have sx := s28
      generalize H8 = Hx at sx ⊢
      have sx1 : Same H1 Hx := s2.trans sx
      have hAx := hA.same (s1.trans sx1)
      have hBx := hB.same (s1.trans sx1)
      have hDx := hD.same (s1.trans sx1)
      have hWx := hW.same sx1
      have hcx := hc.same sx
      refine ⟨_, rfl, _, rfl, a, a, TA, TA, rfl, hAx, hAx, by omega, by omega, fun hno _ _ => (hno (both_nil hA.wf)).elim, fun Pp _ hn hm h400 _ => absurd (few_B hA.wf hA.wf (mul_le lA lA (by decide)) Pp hn hm) (by omega), fun PA WA ka H4 hmA _ _ s4 hka => ?_⟩
      refine ⟨_, rfl, dins_of hka (hAx.same s4) (fun w => by rw [madeB_of hmA, both_self hA.wf]), fun H5 s5 => ⟨true, rfl, ?_⟩⟩
      have s45 : Same Hx H5 := s4.trans s5
      refine iteF ⟨_, rfl, _, rfl, b, b, TB, TB, rfl, hBx.same s45, hBx.same s45, by omega, by omega, fun Pp _ hn hm h400 _ => absurd (few_E hB.wf hB.wf (mul_le (Nat.succ_le_succ lB) (Nat.succ_le_succ lB) (by decide)) Pp hn hm) (by omega), fun PB WB kb H6 hmB _ s6 hkb => ?_⟩
      refine ⟨_, rfl, dins_of hkb ((hBx.same s45).same s6) (fun w => by rw [madeE_of hmB, or_self]), fun H7 s7 => ⟨true, rfl, ?_⟩⟩
      have s47 : Same Hx H7 := (s45.trans s6).trans s7
      refine iteF ⟨_, rfl, _, rfl, b, a, TB, TA, rfl, hBx.same s47, hAx.same s47, by omega, by omega, fun Pp _ hn hm h400 _ => absurd (few_E hB.wf hA.wf (mul_le (Nat.succ_le_succ lB) (Nat.succ_le_succ lA) (by decide)) Pp hn hm) (by omega), fun PC WC kc H8 hmC _ s8 hkc => ?_⟩
      refine ⟨_, rfl, dins_of hkc ((hWx.same s47).same s8) (fun w => by rw [madeE_of hmC, madeE_of hmW, or_comm]), fun H9 s9 => ⟨true, rfl, iteF ?_⟩⟩
      have s49 : Same Hx H9 := (s47.trans s8).trans s9
      refine ⟨_, rfl, _, rfl, b, a, TB, TA, rfl, hBx.same s49, hAx.same s49, by omega, by omega, few_B hB.wf hA.wf (mul_le lB lA (by decide)), fun v3 r3 H10 s10 hv3 hr3 => ?_⟩
      have s410 := s49.trans s10
      obtain ⟨g1, g2⟩ := br_same hr3 hBR both_comm
      refine ⟨_, rfl, v3, _, r3, _, rfl, hv3, hcx.same s410, g1, g2, fun H11 s11 => ⟨true, rfl, iteF ?_⟩⟩
      have s411 := s410.trans s11
      refine ⟨_, rfl, _, rfl, kw, c, W, TD, rfl, hWx.same s411, hDx.same s411, by omega, by omega, few_B hW.wf hD.wf (mul_le lW lD (by decide)), fun v4 r4 H12 s12 hv4 hr4 => ?_⟩
      have s412 := s411.trans s12
      refine ⟨_, rfl, _, rfl, a, c, TA, TD, rfl, hAx.same s412, hDx.same s412, by omega, by omega, few_B hA.wf hD.wf (mul_le lA lD (by decide)), fun v5 r5 H13 s13 hv5 hr5 => ?_⟩
      have s413 := s412.trans s13
      refine ⟨_, rfl, _, rfl, b, c, TB, TD, rfl, hBx.same s413, hDx.same s413, by omega, by omega, few_B hB.wf hD.wf (mul_le lB lD (by decide)), fun v6 r6 H14 s14 hv6 hr6 => ?_⟩
      refine ⟨v5, v6, r5, r6, rfl, hv5.same s14, hv6, fun X Y h1 h2 => ?_, fun v7 x7 H15 s15 hv7 hx7 => ?_⟩
      · subst h1 h2
        obtain ⟨_, P5, m5, l5⟩ := hr5
        obtain ⟨_, P6, m6, l6⟩ := hr6
        refine ⟨by rw [m5.len]; omega, by rw [m6.len]; omega, fun Pp hn hm => ?_⟩
        have := len3 hA.wf hB.wf hD.wf m5 m6 lA lB lD hn fun p hp => ((hm p).mp hp).1
        omega
      · obtain ⟨g3, g4⟩ := er_law (madeE_of hmW) hr4 hr5 hr6 hx7
        exact ⟨v4, v7, r4, x7, rfl, hv4.same ((s13.trans s14).trans s15), hv7, g3, g4, fun H16 s16 => k H16 ((((((s1.trans sx1).trans s413)).trans s14).trans s15).trans s16)⟩
    | some Cl =>
      obtain ⟨kcl, rfl, hCl⟩ := id hc
      have oC := fun w => hBR.words w
      refine iteT ⟨_, rfl, _, rfl, _, rfl, by show 3 ≤ sizeLine; decide, fun t nt => ?_⟩
      refine ⟨t, rfl, ⟨_, SqL.of upd_same⟩, fun D nD => ?_⟩
      have s9 := same_upd nt (o := .lst [.ref a, .ref b, .ref kw])
      have s29 : Same H2 (upd H8 t (.lst [.ref a, .ref b, .ref kw])) := s28.trans s9
      have nD2 : H2 D = none := s29.free nD
      have three : ∀ x ∈ [V.ref a, V.ref b, V.ref kw], ∃ kx X, x = .ref kx ∧ KAt C H2 kx X ∧ ∀ w, Of Cl w → Of X w := fun x hx => by
        rcases List.mem_cons.mp hx with e | hx
        · exact ⟨a, TA, e, hA.same s12, fun w h => ((oC w).mp h).of.1⟩
        · rcases List.mem_cons.mp hx with e | hx
          · exact ⟨b, TB, e, hB.same s12, fun w h => ((oC w).mp h).of.2⟩
          · have e : x = .ref kw := by simpa using hx
            exact ⟨kw, W, e, hW.same s2, fun w h => (oW w).mpr (.inl ((oC w).mp h).of.1)⟩
      refine lc_list (K := K) (a := t) (xs := [.ref a, .ref b, .ref kw]) (fun i H' => Same (upd H8 t (.lst [.ref a, .ref b, .ref kw])) H' ∧ H' D = some (.lst (List.replicate i .non))) ⟨same_upd nD, upd_same⟩ (fun i H' _ q => SqL.of (q.1 _ _ upd_same)) ?_ ?_
      · rintro i x H9 hx ⟨sy, hDl⟩
        obtain ⟨kx, X, rfl, hX, sub⟩ := three x (List.mem_of_getElem? hx)
        have hi : i < 3 := (List.getElem?_eq_some_iff.mp hx).1
        refine ⟨rfl, _, rfl, _, rfl, kcl, kx, Cl, X, rfl, hCl.same (s29.trans sy), hX.same (s29.trans sy), fun r H10 s10 hb => ?_⟩
        obtain rfl := beyond_sub sub hb
        refine ⟨_, s10 _ _ hDl, by rw [List.length_replicate]; exact Nat.lt_trans hi (by decide), sameP (Same.trans sy s10) nD, ?_⟩
        rw [upd_same]
        show some (HO.lst (List.replicate i V.non ++ [V.non])) = _
        rw [rep_snoc]
      · rintro H9 ⟨sy, hDl⟩
        have hDl' : H9 D = some (.lst [.non, .non, .non]) := hDl
        refine ⟨by show 3 ≤ sizeLine; decide, fun L nL => ?_⟩
        have sz := same_upd nL (o := .lst [.non, .non, .non])
        refine ⟨.list [.none, .none, .none], .list [.none, .none, .none], .lst (SqL.of (sz _ _ hDl')) (.cons .non (.cons .non (.cons .non .nil))), .lst (SqL.of upd_same) (.cons .non (.cons .non (.cons .non .nil))), by decide +kernel, by decide +kernel, _, rfl, ?_⟩
        have eq : (!PyData.eqv (.list [.none, .none, .none]) (.list [.none, .none, .none])) = false := by decide +kernel
        rw [eq]
        refine iteF ?_
        have sx : Same H2 (upd H9 L (.lst [.non, .non, .non])) := (Same.trans s29 sy).trans sz
        generalize upd H9 L (.lst [.non, .non, .non]) = Hx at sx ⊢
        have sx1 : Same H1 Hx := s2.trans sx
        have hAx := hA.same (s1.trans sx1)
        have hBx := hB.same (s1.trans sx1)
        have hDx := hD.same (s1.trans sx1)
        have hWx := hW.same sx1
        have hcx := hc.same sx
        refine ⟨_, rfl, _, rfl, a, a, TA, TA, rfl, hAx, hAx, by omega, by omega, fun hno _ _ => (hno (both_nil hA.wf)).elim, fun Pp _ hn hm h400 _ => absurd (few_B hA.wf hA.wf (mul_le lA lA (by decide)) Pp hn hm) (by omega), fun PA WA ka H4 hmA _ _ s4 hka => ?_⟩
        refine ⟨_, rfl, dins_of hka (hAx.same s4) (fun w => by rw [madeB_of hmA, both_self hA.wf]), fun H5 s5 => ⟨true, rfl, ?_⟩⟩
        have s45 : Same Hx H5 := s4.trans s5
        refine iteF ⟨_, rfl, _, rfl, b, b, TB, TB, rfl, hBx.same s45, hBx.same s45, by omega, by omega, fun Pp _ hn hm h400 _ => absurd (few_E hB.wf hB.wf (mul_le (Nat.succ_le_succ lB) (Nat.succ_le_succ lB) (by decide)) Pp hn hm) (by omega), fun PB WB kb H6 hmB _ s6 hkb => ?_⟩
        refine ⟨_, rfl, dins_of hkb ((hBx.same s45).same s6) (fun w => by rw [madeE_of hmB, or_self]), fun H7 s7 => ⟨true, rfl, ?_⟩⟩
        have s47 : Same Hx H7 := (s45.trans s6).trans s7
        refine iteF ⟨_, rfl, _, rfl, b, a, TB, TA, rfl, hBx.same s47, hAx.same s47, by omega, by omega, fun Pp _ hn hm h400 _ => absurd (few_E hB.wf hA.wf (mul_le (Nat.succ_le_succ lB) (Nat.succ_le_succ lA) (by decide)) Pp hn hm) (by omega), fun PC WC kc H8 hmC _ s8 hkc => ?_⟩
        refine ⟨_, rfl, dins_of hkc ((hWx.same s47).same s8) (fun w => by rw [madeE_of hmC, madeE_of hmW, or_comm]), fun H9 s9 => ⟨true, rfl, iteF ?_⟩⟩
        have s49 : Same Hx H9 := (s47.trans s8).trans s9
        refine ⟨_, rfl, _, rfl, b, a, TB, TA, rfl, hBx.same s49, hAx.same s49, by omega, by omega, few_B hB.wf hA.wf (mul_le lB lA (by decide)), fun v3 r3 H10 s10 hv3 hr3 => ?_⟩
        have s410 := s49.trans s10
        obtain ⟨g1, g2⟩ := br_same hr3 hBR both_comm
        refine ⟨_, rfl, v3, _, r3, _, rfl, hv3, hcx.same s410, g1, g2, fun H11 s11 => ⟨true, rfl, iteF ?_⟩⟩
        have s411 := s410.trans s11
        refine ⟨_, rfl, _, rfl, kw, c, W, TD, rfl, hWx.same s411, hDx.same s411, by omega, by omega, few_B hW.wf hD.wf (mul_le lW lD (by decide)), fun v4 r4 H12 s12 hv4 hr4 => ?_⟩
        have s412 := s411.trans s12
        refine ⟨_, rfl, _, rfl, a, c, TA, TD, rfl, hAx.same s412, hDx.same s412, by omega, by omega, few_B hA.wf hD.wf (mul_le lA lD (by decide)), fun v5 r5 H13 s13 hv5 hr5 => ?_⟩
        have s413 := s412.trans s13
        refine ⟨_, rfl, _, rfl, b, c, TB, TD, rfl, hBx.same s413, hDx.same s413, by omega, by omega, few_B hB.wf hD.wf (mul_le lB lD (by decide)), fun v6 r6 H14 s14 hv6 hr6 => ?_⟩
        refine ⟨v5, v6, r5, r6, rfl, hv5.same s14, hv6, fun X Y h1 h2 => ?_, fun v7 x7 H15 s15 hv7 hx7 => ?_⟩
        · subst h1 h2
          obtain ⟨_, P5, m5, l5⟩ := hr5
          obtain ⟨_, P6, m6, l6⟩ := hr6
          refine ⟨by rw [m5.len]; omega, by rw [m6.len]; omega, fun Pp hn hm => ?_⟩
          have := len3 hA.wf hB.wf hD.wf m5 m6 lA lB lD hn fun p hp => ((hm p).mp hp).1
          omega
        · obtain ⟨g3, g4⟩ := er_law (madeE_of hmW) hr4 hr5 hr6 hx7
          exact ⟨v4, v7, r4, x7, rfl, hv4.same ((s13.trans s14).trans s15), hv7, g3, g4, fun H16 s16 => k H16 ((((((s1.trans sx1).trans s413)).trans s14).trans s15).trans s16)⟩
end
end KW
/-! KwD17: _law_ring, _law_put_together, _law_made. -/
namespace KW
open PySem PySem.Spec PyProof.Rows L2
abbrev sRing : Stmt := top 43
abbrev sPut : Stmt := top 44
abbrev sMade : Stmt := top 45
theorem pss_ex {X : Cx} {st : List Stmt} {A : Type} {p : A → Prop} {t : A → TS} (h : ∀ z, p z → PSs X st (t z)) : PSs X st (fun D σ H => ∃ z, p z ∧ t z D σ H) := ⟨fun pins s σ H D I q => by
  obtain ⟨z, hz, q⟩ := q
  exact (h z hz).run pins s σ H D I q⟩
/-- isinstance(e, (c1, c2, ..)), e the exception that the suite holds -/
def rIsET (K : PySem.W.Frag) (D a : Addr) : List V → Hp → VK → Prop := fun xs H Q => ∃ (tp : Addr) (cs : List V) (us : List Value) (b : Bool), xs = [.ref a, .ref tp] ∧ H tp = some (.tup cs) ∧ Paired ClsV cs us ∧ PySem.W.kitAny K (.ref D) us = some b ∧ Q (.bl b) H
theorem call_isET {X : Cx} {a D : Addr} {oe : Obj} {pn : List (Addr × Obj)} (C : ExcC X.K D) (hz : Zc (.ref D) none oe) (hf : ∃ vs, oe.data = .fields vs) : CallR (X.suite a ((a, oe) :: pn)) (.builtin "isinstance") (rIsET X.K D a) := by
  intro pins s σ H xs us Q I r h
  obtain ⟨tp, cs, ws, b, rfl, hT, k, e, q⟩ := h
  obtain ⟨u1, u2, rfl, r1, r2⟩ := vals2 r
  obtain rfl : u1 = Value.ref a := r1
  obtain rfl : u2 = Value.ref tp := r2
  obtain ⟨hget, _⟩ := I.pin (a, oe) (List.mem_append.mpr (.inl List.mem_cons_self))
  obtain ⟨vs, hv⟩ := hf
  have J : PySem.W.InstAt s.heap a oe D none := by
    obtain ⟨oc, od, oda, osl⟩ := oe
    obtain ⟨h1, h2⟩ := hz
    dsimp only at h1 h2 hv
    subst h1 h2 hv
    exact ⟨hget, rfl, rfl, trivial⟩
  obtain ⟨_, its, rv, o, h1, h2, n, h3⟩ := (show ObjOk X.prog X.w H s.heap tp (.tup cs) from I.hok tp _ hT)
  have e3 := ClsV.all k rv
  subst e3
  obtain ⟨oc, od, dt, sl⟩ := o
  simp only at h2 h3
  subst h2 h3
  exact PySem.W.kia_tup (PySem.W.handS_kitx_exc C.hg C.hk C.hs C.hd C.ha C.hn C.ht C.hm) I.kIn J h1 e (fun z => nomatch z) fun tk => ⟨.bl b, H, I.kept (t' := tk) fun _ _ z => z, rfl, q⟩
def spRing (C : Addr) : Sp := fun vs H Q _ => ∃ (c n : Nat), vs = [lV c, .int (n : Nat)] ∧ (97 ≤ c ∧ c ≤ 122) ∧ 0 < n ∧ n ≤ 1000 ∧ ∀ k H', Same H H' → KAt C H' k (ringT c n) → Q (.ref k) H'
def spPut (C CN CT : Addr) : Sp := fun vs H Q E => ∃ (way : Int) (a b : Addr), vs = [.int way, .ref a, .ref b] ∧ ((way = 0 ∧ spBothK C CN CT [.ref a, .ref b] H Q E) ∨ (way ≠ 0 ∧ spEitherK C CT [.ref a, .ref b] H Q E))
/-- what is told of a making with N rows -/
def told (N : Nat) : List V := if N ≤ 400 then [.int (N : Nat), .bl true] else [.bl true, .bl false]
def spMade (C : Addr) : Sp := fun vs H Q _ => ∃ (way : Int) (a b : Addr) (T U : Tab) (N : Nat), vs = [.int way, .ref a, .ref b] ∧ KAt C H a T ∧ KAt C H b U ∧ T.length ≤ 700 ∧ U.length ≤ 700 ∧
  (way = 0 → Both T U [] ∧ ∀ Pp : List PK, Pp.Nodup → (∀ p, p ∈ Pp ↔ Reach (dB T U) pk0 p ∧ Goes (dB T U) p) → Pp.length = N) ∧
  (way ≠ 0 → ∀ Pp : List PK, Pp.Nodup → (∀ p, p ∈ Pp ↔ Reach (dE T U) pk0 p ∧ True) → Pp.length = N) ∧ ∀ tp H', Same H H' → H' tp = some (.tup (told N)) → Q (.ref tp) H'
/-- the exception classes that _law_made names -/
structure TEx (K : PySem.W.Frag) (mg : Str → Option Value) (CL CB CW CN CT : Addr) : Prop where
  gL : mg "LightsError" = some (.ref CL)
  gB : mg "Barred" = some (.ref CB)
  gW : mg "Wrong" = some (.ref CW)
  gN : mg "NoWeather" = some (.ref CN)
  gT : mg "TooMany" = some (.ref CT)
  eTL : PySem.W.exmOne K (.ref CT) (.ref CL) = some true
  exC : ExcC K CT
  kTT : PySem.W.kitOne K (.ref CT) (.ref CT) = some true
  kTB : PySem.W.kitOne K (.ref CT) (.ref CB) = some true
  kTW : PySem.W.kitOne K (.ref CT) (.ref CW) = some false
  kTN : PySem.W.kitOne K (.ref CT) (.ref CN) = some false
section
variable (P : Program) (w : World) (K : PySem.W.Frag) (mg : Str → Option Value) (base : Heap)
/-- the class's __len__ keeps its promise -/
structure DefL (C : Addr) : Prop where
  ex : ∃ f fd, FnOk P w K mg base CX0 1 f fd ["self"] (spLen C) ∧ PySem.W.findIn K (.ref C) "__len__" = some (some (.ref f)) ∧ PySem.W.isFn K (.ref f) = true ∧ Binds K fd ["self"] []
end
def rLenK (C : Addr) : List V → Hp → VK → Prop := fun xs H Q => ∃ a dx fs, xs = [.ref a] ∧ H a = some (.ins C dx fs) ∧ spLen C [.ref a] H (fun v H' => ∃ k : Int, v = .int k ∧ (0 ≤ k ∧ k < 2 ^ 63) ∧ Q (.int k) H') E0
theorem call_lenD1 {X : Cx} {C : Addr} {k : Nat} (D : DefL X.prog X.w X.K X.mg X.base C) (hr : Room k X.A) (h : 2 ≤ k := by decide) : CallR X (.builtin "len") (rLenK C) := by
  obtain ⟨f, fd, F, hs, hf, hb⟩ := D.ex
  exact call_lenK F hs hf hb pass0 (hr.mono h)
theorem scRing : FnScope ["_law_letter", "_law_many", "_law_k"] ["_law_letter", "_law_many"] (defScope sRing) := ⟨rfl, rfl, rfl, by decide +kernel, rfl, by decide +kernel, by decide +kernel⟩
theorem scPut : FnScope ["_law_way", "_law_kind", "_law_other"] ["_law_way", "_law_kind", "_law_other"] (defScope sPut) := ⟨rfl, rfl, rfl, by decide +kernel, rfl, by decide +kernel, by decide +kernel⟩
theorem scMade : FnScope ["_law_way", "_law_kind", "_law_other", "_law_told", "e"] ["_law_way", "_law_kind", "_law_other"] (defScope sMade) := ⟨rfl, rfl, rfl, by decide +kernel, rfl, by decide +kernel, by decide +kernel⟩
section
variable {P : Program} {w : World} {K : PySem.W.Frag} {mg : Str → Option Value} {base : Heap} {C CT CN CL CB CW : Addr}
theorem ok_ring {f : Addr} {fd : FuncData} (Fn : Fun K "_law_ring" "_law_ring" sRing f fd) (TT : TX K mg) (TC : TK K mg C) (DI : DefI P w K mg base 5 C ["self", "table"] (spInit C)) : FnOk P w K mg base CX0 7 f fd ["_law_letter", "_law_many"] (spRing C) := by
  refine Fn.ok scRing (fun vs H Q E h => ?_) (fun cdv A outer s H vs Q E hr h => ?_)
  · obtain ⟨c, n, rfl, _⟩ := h
    rfl
  · obtain ⟨c, n, rfl, hc, hn0, hn, k⟩ := h
    refine ⟨_, pss_one (ps_ret (pe_makeD DI hr TC.mgC (pa_cons (pe_lc (own := [("_law_k", 2)]) (g := gName 2) (tt := tYes) rfl scRing.nd (pi_range1 (by rfl) TT.range (pa_cons (pv 1) pa_nil)) (blkOk_by (N := ["_law_letter", "_law_many", "_law_k"]) (sc := defScope sRing) (by decide +kernel))
      (fun _ _ _ _ _ => pg_name (i := 2) scRing.nd rfl (Or.inl rfl)) (fun _ _ _ _ _ => pts_nil) (fun _ _ _ _ _ => pe_disp (pps_cons (pv 0) (pe_op op_mod (pe_op op_add (pv 2) pe_int) (pv 1)) pps_nil) (by rfl) (by rfl) (fun z => by cases z) (by decide))) pa_nil) pass0)), ?_⟩
    refine ⟨_, rfl, (n : Int), rfl, by omega, by omega, fun D hD => ?_⟩
    refine lc_range (lo := 0) (n := (n : Int).toNat) (fun i H' => Same H H' ∧ ∃ as : List Addr, H' D = some (.lst (as.map V.ref)) ∧ Paired (RowAt H') as ((ringT c n).take i)) ⟨same_upd hD, [], upd_same, .nil⟩ ?_ ?_
    · rintro i H1 hi ⟨s1, as, hl, has⟩
      have hi' : i < n := by simpa using hi
      have hnth : (ringT c n)[i]? = some [(c, (i + 1) % n)] := by
        unfold ringT
        rw [List.getElem?_map, List.getElem?_range hi']
        rfl
      have e1 : ((0 + (i : Int)) + 1) % (n : Int) = (((i + 1) % n : Nat) : Int) := by
        rw [Int.zero_add]
        exact (Int.natCast_emod (i + 1) n).symm
      refine ⟨rfl, fun d nd => ⟨_, rfl, _, rfl, _, _, rfl, rfl, _, rfl, _, _, rfl, rfl, (by show (0 : Int) < (n : Int); omega), upd_same, [(Sum.inr (lt c), V.int (((0 + (i : Int)) + 1) % (n : Int)))], rfl, by show 1 ≤ 15; decide, ?_⟩⟩
      have hDd : D ≠ d := ne_of_none hl nd
      have hal : as.length ≤ 1000 := by
        have := Paired.length has
        rw [List.length_take] at this
        omega
      refine ⟨_, by rw [upd_ne hDd, upd_ne hDd]; exact hl, by rw [List.length_map]; exact Nat.lt_of_le_of_lt hal (by decide), sameP (sameP (sameU s1 nd) (s1.free nd)) hD, as ++ [d], by rw [upd_same, List.map_append]; rfl, ?_⟩
      rw [take_snoc hnth]
      refine paired_snoc ?_ (paired_mono (fun a r q => ?_) has)
      · show upd (upd (upd H1 d _) d _) D _ d = _
        rw [upd_ne hDd.symm, upd_same, e1]
        rfl
      · show upd (upd (upd H1 d _) d _) D _ a = _
        have q' : H1 a = some (.dK (rowD r)) := q
        rw [upd_ne (ne_of q' hl (fun z => nomatch z)), upd_ne (ne_of_none q' nd), upd_ne (ne_of_none q' nd)]
        exact q'
    · rintro H1 ⟨s1, as, hl, has⟩
      have hrl := ring_len c n
      have htk : (ringT c n).take (n : Int).toNat = ringT c n := List.take_of_length_le (by rw [hrl]; simp)
      rw [htk] at has
      exact fun x dx hx hdx ne => kind_make (C := C) ⟨as, hl, has⟩ (ring_wf hn0 hc) (by rw [hrl]; exact hn) hx hdx ne fun H2 s2 hk => k x H2 (s1.trans s2) hk
theorem ok_put {f : Addr} {fd : FuncData} (Fn : Fun K "_law_put_together" "_law_put_together" sPut f fd) (Db : Def P w K mg base (L2.CX P w) 8 "both_kinds" ["kind", "other"] (spBothK C CN CT)) (De : Def P w K mg base (L2.CX P w) 8 "either_kind" ["kind", "other"] (spEitherK C CT)) :
    FnOk P w K mg base (L2.CX P w) 9 f fd ["_law_way", "_law_kind", "_law_other"] (spPut C CN CT) := by
  refine Fn.okX scPut (fun vs H Q E h => ?_) (fun cdv A outer s H vs Q E hr h => ?_)
  · obtain ⟨way, a, b, rfl, _⟩ := h
    rfl
  · obtain ⟨way, a, b, rfl, h⟩ := h
    refine ⟨_, pss_cons (ps_if (pt_cmpR op_eq (pv 0) pe_int (nomark _)) (pss_one (ps_ret (pe_callX Db hr (fun σ => passAt (takes_of rfl rfl rfl rfl) σ) (pa_cons (pv 1) (pa_cons (pv 2) pa_nil))))) pss_nil)
      (pss_one (ps_ret (pe_callX De hr (fun σ => passAt (takes_of rfl rfl rfl rfl) σ) (pa_cons (pv 1) (pa_cons (pv 2) pa_nil))))), ?_⟩
    refine ⟨_, rfl, rfl, _, rfl, ?_⟩
    rcases h with ⟨rfl, h⟩ | ⟨hne, h⟩
    · have e : decide (V.int 0 = V.int 0) = true := decide_eq_true rfl
      rw [e]
      exact iteT ⟨_, rfl, _, rfl, h⟩
    · have e : decide (V.int way = V.int 0) = false := decide_eq_false (fun q => hne (by injection q))
      rw [e]
      exact iteF ⟨_, rfl, _, rfl, h⟩
/-- what the suite of _law_made asks, the exception of the class at D -/
def tSuite (K : PySem.W.Frag) (a D : Addr) (CT CB CW CN : Addr) : TS := tAsg (tTup (tCons (tAndV (tCB (rIsE K D a) (tCons (tVar 4) (tCons (tC (.ref CT)) tNil))) (tCB (rIsE K D a) (tCons (tVar 4) (tCons (tC (.ref CB)) tNil))))
  (tCons (tCB (rIsET K D a) (tCons (tVar 4) (tCons (tTup (tCons (tC (.ref CW)) (tCons (tC (.ref CN)) tNil))) tNil))) tNil))) (gName 3)
theorem ok_made {f : Addr} {fd : FuncData} (Fn : Fun K "_law_made" "_law_made" sMade f fd) (TT : TX K mg) (TE : TEx K mg CL CB CW CN CT) (DL : DefL P w K mg base C) (Dp : Def P w K mg base (L2.CX P w) 9 "_law_put_together" ["_law_way", "_law_kind", "_law_other"] (spPut C CN CT)) :
    FnOk P w K mg base CX0 10 f fd ["_law_way", "_law_kind", "_law_other"] (spMade C) := by
  refine Fn.ok scMade (fun vs H Q E h => ?_) (fun cdv A outer s H vs Q E hr h => ?_)
  · obtain ⟨way, a, b, T, U, N, rfl, _⟩ := h
    rfl
  · obtain ⟨way, a, b, T, U, N, rfl, hA, hB, l1, l2, hw0, hw1, k⟩ := h
    refine ⟨_, pss_cons (ps_set (i := 3) scMade.nd rfl (Or.inl rfl) (pe_tup (pa_cons pe_int (pa_cons pe_bl pa_nil))))
      (pss_cons (ps_try_as (i := 4) (tb := fun W => tAsg (tTup (tCons (tCB (rLenK C) (tCons (tCallS (spPut C CN CT) (WE W) (tCons (tVar 0) (tCons (tVar 1) (tCons (tVar 2) tNil)))) tNil)) (tCons (tC (.bl true)) tNil))) (gName 3))
          (ts := fun a cls d => fun D σ H => ∃ z : Addr, (cls = .ref z ∧ d = none ∧ ExcC K z) ∧ tSuite K a z CT CB CW CN D σ H) (Wout := fun _ _ _ _ => False) rfl rfl scMade.nd rfl rfl ⟨rfl, by decide, Or.inl TE.gL⟩ takes0
        (fun W pn xe tk _ => pss_one (ps_set (i := 3) scMade.nd rfl (Or.inl rfl) (by exact (pe_tup (pa_cons (pe_callB (call_lenD1 DL hr) (by rfl) TT.len PySem.boot_len (pa_cons (pe_callX Dp hr (fun σ => passAt tk σ) (by exact (pa_cons (pv 0) (pa_cons (pv 1) (pa_cons (pv 2) pa_nil))))) pa_nil)) (pa_cons pe_bl pa_nil))))))
        (fun a oe cls d pn hz hf => pss_ex fun z hc => pss_one (ps_set (i := 3) scMade.nd rfl (Or.inl rfl) (by
          obtain ⟨rfl, rfl, hE⟩ := hc
          exact (pe_tup (pa_cons (pe_and (pe_callB (call_isE hE hz hf) (by rfl) TT.isi (by decide +kernel) (pa_cons (pv 4) (pa_cons (pe_glob (v := .ref CT) (by rfl) TE.gT rfl) pa_nil))) (pe_one (pe_callB (call_isE hE hz hf) (by rfl) TT.isi (by decide +kernel) (pa_cons (pv 4) (pa_cons (pe_glob (v := .ref CB) (by rfl) TE.gB rfl) pa_nil)))))
            (pa_cons (pe_callB (call_isET hE hz hf) (by rfl) TT.isi (by decide +kernel) (pa_cons (pv 4) (pa_cons (pe_tup (pa_cons (pe_glob (v := .ref CW) (by rfl) TE.gW rfl) (pa_cons (pe_glob (v := .ref CN) (by rfl) TE.gN rfl) pa_nil))) pa_nil))) pa_nil)))))))
      (pss_one (ps_ret (pv 3)))), ?_⟩
    have kNo : PySem.W.kitAny K (.ref CT) [.ref CW, .ref CN] = some false := kitAny_cons (b := false) TE.kTW (fun _ => kitAny_cons (b := false) TE.kTN (fun _ => rfl) (fun q => nomatch q)) (fun q => nomatch q)
    refine ⟨by show 2 ≤ sizeLine; decide, fun t0 nt0 => ?_⟩
    have s0 := same_upd nt0 (o := .tup [.int 0, .bl false])
    refine ⟨_, rfl, _, rfl, _, rfl, way, a, b, rfl, ?_⟩
    by_cases hw : way = 0
    · obtain ⟨hB0, hN⟩ := hw0 hw
      refine .inl ⟨hw, a, b, T, U, rfl, hA.same s0, hB.same s0, l1, l2, fun hno _ _ => (hno hB0).elim, fun Pp H1 hn hm h400 s1 => ⟨true, TE.eTL, fun _ x hx => ⟨CT, ⟨rfl, rfl, TE.exC⟩, ?_⟩, fun q => nomatch q⟩, fun Pp W kk H1 hm h400 hb s1 hk => ?_⟩
      · have hNn := hN Pp hn hm
        have ht : told N = [.bl true, .bl false] := if_neg (by omega)
        refine ⟨_, rfl, .ref CT, .ref CT, true, rfl, (fun u h => h), TE.kTT, true, rfl, iteT ⟨_, rfl, .ref CB, .ref CB, true, rfl, (fun u h => h), TE.kTB, _, rfl, by show 2 ≤ sizeLine; decide, fun tw ntw => ⟨tw, _, [.ref CW, .ref CN], false, rfl, upd_same, .cons (.own _) (.cons (.own _) .nil), kNo, by show 2 ≤ sizeLine; decide, fun tp ntp => ?_⟩⟩⟩
        exact ⟨_, rfl, k tp _ ((s0.trans s1).trans (sameU (same_upd ntw) ntp)) (by rw [ht]; exact upd_same)⟩
      · have hNn := hN Pp hm.nodup hm.mem
        have ht : told N = [.int (N : Nat), .bl true] := if_pos (by omega)
        have hWN : W.length = N := by rw [hm.len]; exact hNn
        obtain ⟨⟨dx, l, hkat, _⟩, _⟩ := id hk
        refine ⟨kk, dx, _, rfl, hkat, kk, W, rfl, hk, (W.length : Nat), rfl, ⟨by omega, by have := hk.len; omega⟩, by show 2 ≤ sizeLine; decide, fun tp ntp => ⟨_, rfl, k tp _ ((s0.trans s1).trans (same_upd ntp)) ?_⟩⟩
        rw [ht, upd_same, hWN]
    · have hN := hw1 hw
      refine .inr ⟨hw, a, b, T, U, rfl, hA.same s0, hB.same s0, l1, l2, fun Pp H1 hn hm h400 s1 => ⟨true, TE.eTL, fun _ x hx => ⟨CT, ⟨rfl, rfl, TE.exC⟩, ?_⟩, fun q => nomatch q⟩, fun Pp W kk H1 hm h400 s1 hk => ?_⟩
      · have hNn := hN Pp hn hm
        have ht : told N = [.bl true, .bl false] := if_neg (by omega)
        refine ⟨_, rfl, .ref CT, .ref CT, true, rfl, (fun u h => h), TE.kTT, true, rfl, iteT ⟨_, rfl, .ref CB, .ref CB, true, rfl, (fun u h => h), TE.kTB, _, rfl, by show 2 ≤ sizeLine; decide, fun tw ntw => ⟨tw, _, [.ref CW, .ref CN], false, rfl, upd_same, .cons (.own _) (.cons (.own _) .nil), kNo, by show 2 ≤ sizeLine; decide, fun tp ntp => ?_⟩⟩⟩
        exact ⟨_, rfl, k tp _ ((s0.trans s1).trans (sameU (same_upd ntw) ntp)) (by rw [ht]; exact upd_same)⟩
      · have hNn := hN Pp hm.nodup hm.mem
        have ht : told N = [.int (N : Nat), .bl true] := if_pos (by omega)
        have hWN : W.length = N := by rw [hm.len]; exact hNn
        obtain ⟨⟨dx, l, hkat, _⟩, _⟩ := id hk
        refine ⟨kk, dx, _, rfl, hkat, kk, W, rfl, hk, (W.length : Nat), rfl, ⟨by omega, by have := hk.len; omega⟩, by show 2 ≤ sizeLine; decide, fun tp ntp => ⟨_, rfl, k tp _ ((s0.trans s1).trans (same_upd ntp)) ?_⟩⟩
        rw [ht, upd_same, hWN]
end
end KW
/-! KwD18: _law_rings_right. -/
namespace KW
open PySem PySem.Spec PyProof.Rows L2
abbrev sRings : Stmt := top 46
theorem sqT_px {K : PySem.W.Frag} {p a : Addr} {H H' : Hp} {xs : List V} (h : SqT K H a xs) (px : PX p H H') (hp : PotAt H p) : SqT K H' a xs :=
  sqT_but (S := fun b => b = p) (fun b o hb e => px.1 b o hb e) (fun b hb => by
    subst hb
    obtain ⟨c, m, e⟩ := hp
    rw [e]
    exact trivial) h
theorem fresh {H : Hp} {p : Addr} {o : HO} (h : H p = none) : Same H (upd H p o) ∧ upd H p o p = some o := ⟨same_upd h, upd_same⟩
/-- two sizes of rings -/
def SzAt (K : PySem.W.Frag) (H : Hp) (v : V) : Prop := ∃ (t : Addr) (m n : Nat), v = .ref t ∧ (1 ≤ m ∧ m ≤ 401) ∧ (1 ≤ n ∧ n ≤ 401) ∧ SqT K H t [.int (m : Nat), .int (n : Nat)]
theorem SzAt.move {K : PySem.W.Frag} {H H' : Hp} {v : V} (h : SzAt K H v) (k : ∀ a xs, SqT K H a xs → SqT K H' a xs) : SzAt K H' v := by
  obtain ⟨t, m, n, h1, h2, h3, h4⟩ := h
  exact ⟨t, m, n, h1, h2, h3, k _ _ h4⟩
theorem sz_snoc {K : PySem.W.Frag} {H : Hp} {xs : List V} {t : Addr} {a b : Int} (m n : Nat) (h : ∀ x ∈ xs, SzAt K H x) (ht : H t = none) (ea : a = (m : Int)) (eb : b = (n : Int)) (hm : 1 ≤ m ∧ m ≤ 401) (hn : 1 ≤ n ∧ n ≤ 401) : ∀ x ∈ xs ++ [V.ref t], SzAt K (upd H t (.tup [.int a, .int b])) x := fun x hx => by
  subst ea eb
  rcases List.mem_append.mp hx with hx | hx
  · exact (h x hx).move fun a xs => sqT_same (same_upd ht)
  · have e : x = .ref t := by simpa using hx
    exact ⟨t, m, n, e, hm, hn, SqT.of upd_same⟩
def toldD (N : Nat) : PyData := if N ≤ 400 then .tuple [.int (N : Nat), .bool true] else .tuple [.bool true, .bool false]
theorem toldD_shaped (N : Nat) : SeqAt.shaped (toldD N) = true := by
  unfold toldD
  split <;> rfl
theorem toldD_eqv (N : Nat) : (!PyData.eqv (toldD N) (toldD N)) = false := by
  rw [SeqAt.eqv_refl _ (SeqAt.canLay_of_shaped (toldD_shaped N))]
  rfl
theorem told_dp {K : PySem.W.Frag} {H : Hp} {t : Addr} {N : Nat} (h : SqT K H t (told N)) : Dp K H (.ref t) (toldD N) := by
  unfold told at h
  unfold toldD
  by_cases hN : N ≤ 400
  · rw [if_pos hN] at h ⊢
    exact .tup h (.cons (.int _) (.cons (.bl _) .nil))
  · rw [if_neg hN] at h ⊢
    exact .tup h (.cons (.bl _) (.cons (.bl _) .nil))
theorem rings_both {c m n : Nat} (hm : 0 < m) (hn : 0 < n) : Both (ringT c m) (ringT c n) [] := by
  have h := ringPairs_mem hm hn 0
  rw [Nat.zero_mod, Nat.zero_mod] at h
  exact goesB0.mp ((ringB_reach hm hn pk0).mpr h).2
/-- a check that draws from the pot and finds all right -/
def spCheck : Sp := fun vs H Q _ => ∃ p : Addr, vs = [.ref p] ∧ PotAt H p ∧ ∀ H', PX p H H' → Q (.bl true) H'
theorem scRings : FnScope ["_law_pot_here", "_law_letter", "_law_near", "_law_sizes", "_law_many", "_law_due", "_law_way"] ["_law_pot_here"] (defScope sRings) := ⟨rfl, rfl, rfl, by decide +kernel, rfl, by decide +kernel, by decide +kernel⟩
section
variable {P : Program} {w : World} {K : PySem.W.Frag} {mg : Str → Option Value} {base : Heap} {C CT CN CL CB CW : Addr}
theorem ok_rings {f : Addr} {fd : FuncData} (Fn : Fun K "_law_rings_right" "_law_rings_right" sRings f fd) (TT : TX K mg) (Dt : Def P w K mg base CX0 1 "_law_take" ["_law_pot_here", "_law_many"] spTake) (Dl : Def P w K mg base CX0 2 "_law_letters" ["_law_pot_here", "_law_many"] spLetters)
    (Dr : Def P w K mg base CX0 7 "_law_ring" ["_law_letter", "_law_many"] (spRing C)) (Dm : Def P w K mg base CX0 10 "_law_made" ["_law_way", "_law_kind", "_law_other"] (spMade C)) : FnOk P w K mg base CX0 11 f fd ["_law_pot_here"] spCheck := by
  refine Fn.ok scRings (fun vs H Q E h => ?_) (fun cdv A outer s H vs Q E hr h => ?_)
  · obtain ⟨p, rfl, _⟩ := h
    rfl
  · obtain ⟨p, rfl, hp, k⟩ := h
    have hu64 := hr.units
    refine ⟨_, pss_cons (ps_set (i := 1) scRings.nd rfl (Or.inl rfl) (pe_ix ix_list (pe_callD Dl hr pass0 (pa_cons (pv 0) (pa_cons pe_int pa_nil))) pe_int (fun _ _ => rfl)))
      (pss_cons (ps_set (i := 2) scRings.nd rfl (Or.inl rfl) (pe_lst (pa_cons (pe_tup (pa_cons pe_int (pa_cons pe_int pa_nil))) (pa_cons (pe_tup (pa_cons pe_int (pa_cons pe_int pa_nil))) (pa_cons (pe_tup (pa_cons pe_int (pa_cons pe_int pa_nil))) (pa_cons (pe_tup (pa_cons pe_int (pa_cons pe_int pa_nil))) (pa_cons (pe_tup (pa_cons pe_int (pa_cons pe_int pa_nil))) (pa_cons (pe_tup (pa_cons pe_int (pa_cons pe_int pa_nil))) (pa_cons (pe_tup (pa_cons pe_int (pa_cons pe_int pa_nil))) (pa_cons (pe_tup (pa_cons pe_int (pa_cons pe_int pa_nil))) (pa_cons (pe_tup (pa_cons pe_int (pa_cons pe_int pa_nil))) pa_nil)))))))))))
      (pss_cons (ps_set (i := 3) scRings.nd rfl (Or.inl rfl) (pe_ix ix_list (pe_lst (pa_cons (pe_tup (pa_cons (pe_op op_add pe_int (pe_callD Dt hr pass0 (pa_cons (pv 0) (pa_cons pe_int pa_nil)))) (pa_cons (pe_op op_add pe_int (pe_callD Dt hr pass0 (pa_cons (pv 0) (pa_cons pe_int pa_nil)))) pa_nil)))
          (pa_cons (pe_ix ix_list (pv 2) (pe_callD Dt hr pass0 (pa_cons (pv 0) (pa_cons pe_int pa_nil))) (fun _ _ => rfl)) pa_nil))) (pe_callD Dt hr pass0 (pa_cons (pv 0) (pa_cons pe_int pa_nil))) (fun _ _ => rfl)))
      (pss_cons (ps_set (i := 4) scRings.nd rfl (Or.inl rfl) (pe_ix ix_tup (pv 3) pe_int (fun _ _ => rfl)))
      (pss_cons (ps_while PassesOwn.never (pt_cmpR op_ne (pe_op op_mod (pv 4) (pe_ix ix_tup (pv 3) pe_int (fun _ _ => rfl))) pe_int (nomark _))
        (pss_one (ps_set (i := 4) scRings.nd rfl (Or.inl rfl) (pe_op op_add (pv 4) (pe_ix ix_tup (pv 3) pe_int (fun _ _ => rfl))))))
      (pss_cons (ps_set (i := 5) scRings.nd rfl (Or.inl rfl) (pe_ix ix_list (pe_lst (pa_cons (pe_tup (pa_cons (pv 4) (pa_cons pe_bl pa_nil))) (pa_cons (pe_tup (pa_cons pe_bl (pa_cons pe_bl pa_nil))) pa_nil))) (pe_callTy call_int1 (by rfl) TT.int (by decide +kernel) (pa_cons (pe_cmpR op_gt (pv 4) pe_int (nomark _)) pa_nil)) (fun _ _ => rfl)))
      (pss_cons (ps_for PassesOwn.never rfl (pi_range1 (by rfl) TT.range (pa_cons pe_int pa_nil)) (pg_name (i := 6) scRings.nd rfl (Or.inl rfl))
        (pss_one (ps_if (pt_cmpR (op_neD hu64) (pe_callD Dm hr pass0 (pa_cons (pv 6) (pa_cons (pe_callD Dr hr pass0 (pa_cons (pv 1) (pa_cons (pe_ix ix_tup (pv 3) pe_int (fun _ _ => rfl)) pa_nil))) (pa_cons (pe_callD Dr hr pass0 (pa_cons (pv 1) (pa_cons (pe_ix ix_tup (pv 3) pe_int (fun _ _ => rfl)) pa_nil))) pa_nil)))) (pv 5) (nomark _))
          (pss_one (ps_ret pe_bl)) pss_nil)))
      (pss_one (ps_ret pe_bl)))))))), ?_⟩
    -- one letter
    refine ⟨_, rfl, p, 1, rfl, hp, by decide, fun l cs H1 hcl hcs nl hl px1 => ?_⟩
    obtain ⟨c, rfl⟩ : ∃ c, cs = [c] := by
      cases cs with
      | nil => simp at hcl
      | cons c r => cases r with
        | nil => exact ⟨c, rfl⟩
        | cons _ _ => simp at hcl
    have hc := hcs.2 c (by simp)
    refine ⟨l, _, _, lV c, rfl, rfl, SqL.of hl, rfl, ?_⟩
    have hp1 := px1.2
    have q0 : ∀ x ∈ ([] : List V), SzAt K H1 x := fun x hx => (nomatch hx)
    have s0 : Same H1 H1 := Same.refl H1
    refine ⟨by show 2 ≤ sizeLine; decide, fun t1 n1 => ?_⟩
    have q1 := sz_snoc (a := 16) (b := 25) 16 25 q0 n1 rfl rfl (by decide) (by decide)
    have s1 := sameU s0 n1 (o := .tup [.int 16, .int 25])
    refine ⟨by show 2 ≤ sizeLine; decide, fun t2 n2 => ?_⟩
    have q2 := sz_snoc (a := 25) (b := 16) 25 16 q1 n2 rfl rfl (by decide) (by decide)
    have s2 := sameU s1 n2 (o := .tup [.int 25, .int 16])
    refine ⟨by show 2 ≤ sizeLine; decide, fun t3 n3 => ?_⟩
    have q3 := sz_snoc (a := 1) (b := 400) 1 400 q2 n3 rfl rfl (by decide) (by decide)
    have s3 := sameU s2 n3 (o := .tup [.int 1, .int 400])
    refine ⟨by show 2 ≤ sizeLine; decide, fun t4 n4 => ?_⟩
    have q4 := sz_snoc (a := 1) (b := 401) 1 401 q3 n4 rfl rfl (by decide) (by decide)
    have s4 := sameU s3 n4 (o := .tup [.int 1, .int 401])
    refine ⟨by show 2 ≤ sizeLine; decide, fun t5 n5 => ?_⟩
    have q5 := sz_snoc (a := 401) (b := 1) 401 1 q4 n5 rfl rfl (by decide) (by decide)
    have s5 := sameU s4 n5 (o := .tup [.int 401, .int 1])
    refine ⟨by show 2 ≤ sizeLine; decide, fun t6 n6 => ?_⟩
    have q6 := sz_snoc (a := 400) (b := 8) 400 8 q5 n6 rfl rfl (by decide) (by decide)
    have s6 := sameU s5 n6 (o := .tup [.int 400, .int 8])
    refine ⟨by show 2 ≤ sizeLine; decide, fun t7 n7 => ?_⟩
    have q7 := sz_snoc (a := 80) (b := 25) 80 25 q6 n7 rfl rfl (by decide) (by decide)
    have s7 := sameU s6 n7 (o := .tup [.int 80, .int 25])
    refine ⟨by show 2 ≤ sizeLine; decide, fun t8 n8 => ?_⟩
    have q8 := sz_snoc (a := 401) (b := 401) 401 401 q7 n8 rfl rfl (by decide) (by decide)
    have s8 := sameU s7 n8 (o := .tup [.int 401, .int 401])
    refine ⟨by show 2 ≤ sizeLine; decide, fun t9 n9 => ?_⟩
    have q9 := sz_snoc (a := 200) (b := 16) 200 16 q8 n9 rfl rfl (by decide) (by decide)
    have s9 := sameU s8 n9 (o := .tup [.int 200, .int 16])
    refine ⟨by show 9 ≤ sizeLine; decide, fun nl nnl => ?_⟩
    have q10 : ∀ x ∈ ([.ref t1, .ref t2, .ref t3, .ref t4, .ref t5, .ref t6, .ref t7, .ref t8, .ref t9] : List V), SzAt K _ x := fun x hx => (q9 x hx).move fun a xs => sqT_same (same_upd nnl (o := .lst [.ref t1, .ref t2, .ref t3, .ref t4, .ref t5, .ref t6, .ref t7, .ref t8, .ref t9]))
    have s10 := sameU s9 nnl (o := .lst [.ref t1, .ref t2, .ref t3, .ref t4, .ref t5, .ref t6, .ref t7, .ref t8, .ref t9])
    have hnl := (fresh nnl (o := HO.lst [.ref t1, .ref t2, .ref t3, .ref t4, .ref t5, .ref t6, .ref t7, .ref t8, .ref t9])).2
    have px2 := px1.same s10
    have len9 : ([.ref t1, .ref t2, .ref t3, .ref t4, .ref t5, .ref t6, .ref t7, .ref t8, .ref t9] : List V).length = 9 := rfl
    generalize upd (upd (upd (upd (upd (upd (upd (upd (upd (upd H1 t1 (.tup [.int 16, .int 25])) t2 (.tup [.int 25, .int 16])) t3 (.tup [.int 1, .int 400])) t4 (.tup [.int 1, .int 401])) t5 (.tup [.int 401, .int 1])) t6 (.tup [.int 400, .int 8])) t7 (.tup [.int 80, .int 25])) t8 (.tup [.int 401, .int 401])) t9 (.tup [.int 200, .int 16])) nl (.lst [.ref t1, .ref t2, .ref t3, .ref t4, .ref t5, .ref t6, .ref t7, .ref t8, .ref t9]) = Hn at q10 s10 hnl px2 ⊢
    clear q0 s0 q1 s1 n1 q2 s2 n2 q3 s3 n3 q4 s4 n4 q5 s5 n5 q6 s6 n6 q7 s7 n7 q8 s8 n8 q9 s9 n9 nnl s10
    generalize ([.ref t1, .ref t2, .ref t3, .ref t4, .ref t5, .ref t6, .ref t7, .ref t8, .ref t9] : List V) = lst9 at q10 hnl len9
    refine ⟨_, rfl, p, _, rfl, px2.2, ⟨by decide, by decide⟩, fun d1 H2 hd1 px3 => ⟨_, _, rfl, rfl, _, rfl, p, _, rfl, px3.2, ⟨by decide, by decide⟩, fun d2 H3 hd2 px4 => ⟨_, _, rfl, rfl, by show 2 ≤ sizeLine; decide, fun ts nts => ?_⟩⟩⟩
    have not9 : ∀ c m : Int, (HO.lst lst9) ≠ .lst [.int c, .int m] := fun c m z => by
      injection z with z
      rw [z] at len9
      cases len9
    have q12 : ∀ x ∈ lst9, SzAt K (upd H3 ts (.tup [.int (1 + (d1 : Int)), .int (1 + (d2 : Int))])) x := fun x hx => (q10 x hx).move fun a xs h => sqT_same (same_upd nts) (sqT_px (sqT_px h px3 px2.2) px4 px3.2)
    have hts : SzAt K (upd H3 ts (.tup [.int (1 + (d1 : Int)), .int (1 + (d2 : Int))])) (.ref ts) := ⟨ts, 1 + d1, 1 + d2, rfl, ⟨by omega, by omega⟩, ⟨by omega, by omega⟩, SqT.of upd_same⟩
    have hnl3 : upd H3 ts (.tup [.int (1 + (d1 : Int)), .int (1 + (d2 : Int))]) nl = some (.lst lst9) := same_upd nts _ _ (px4.at_ px3.2 (px3.at_ px2.2 hnl not9) not9)
    have px5 := ((px2.trans px3).trans px4).same (same_upd nts (o := .tup [.int (1 + (d1 : Int)), .int (1 + (d2 : Int))]))
    generalize upd H3 ts (.tup [.int (1 + (d1 : Int)), .int (1 + (d2 : Int))]) = H4 at q12 hts hnl3 px5 ⊢
    refine ⟨_, rfl, _, rfl, p, _, rfl, px5.2, ⟨by decide, by decide⟩, fun d3 H5 hd3 px6 => ?_⟩
    have hd3' : d3 < lst9.length := by rw [len9]; omega
    have hx3 : lst9[d3]? = some lst9[d3] := List.getElem?_eq_getElem hd3'
    have hz3 := (q12 _ (List.mem_of_getElem? hx3)).move fun a xs h => sqT_px h px6 px5.2
    have hts5 := hts.move fun a xs h => sqT_px h px6 px5.2
    generalize lst9[d3] = x3 at hx3 hz3
    refine ⟨nl, _, _, x3, rfl, rfl, SqL.of (px6.at_ px5.2 hnl3 not9), atI_nat hx3, by show 2 ≤ sizeLine; decide, fun tl ntl => ?_⟩
    have px7 := (px5.trans px6).same (same_upd ntl (o := .lst [.ref ts, x3]))
    have hz6 := hz3.move fun a xs h => sqT_same (same_upd ntl (o := .lst [.ref ts, x3])) h
    have hts6 := hts5.move fun a xs h => sqT_same (same_upd ntl (o := .lst [.ref ts, x3])) h
    have htl := (fresh ntl (o := .lst [.ref ts, x3])).2
    generalize upd H5 tl (.lst [.ref ts, x3]) = H6 at px7 hz6 hts6 htl ⊢
    refine ⟨_, rfl, p, _, rfl, px7.2, ⟨by decide, by decide⟩, fun d4 H7 hd4 px8 => ?_⟩
    have px9 := px7.trans px8
    have hv : ∃ v, ([V.ref ts, x3])[d4]? = some v ∧ SzAt K H7 v := by
      match d4, hd4 with
      | 0, _ => exact ⟨_, rfl, hts6.move fun a xs h => sqT_px h px8 px7.2⟩
      | 1, _ => exact ⟨_, rfl, hz6.move fun a xs h => sqT_px h px8 px7.2⟩
    obtain ⟨v, hv1, t, m, n, rfl, hm, hn, ht⟩ := hv
    have htl7 : H7 tl = some (.lst [.ref ts, x3]) := px8.at_ px7.2 htl fun c m z => by
      injection z with z
      cases z
    refine ⟨tl, _, _, _, rfl, rfl, SqL.of htl7, atI_nat hv1, ?_⟩
    -- the least common multiple
    refine ⟨_, rfl, t, _, 0, _, rfl, rfl, ht, rfl, ?_⟩
    refine ⟨fun mm σ H' => ∃ j : Nat, mm = n - j ∧ 0 < j ∧ j ≤ n ∧ (∀ i, 0 < i → i < j → ¬ (m * i) % n = 0) ∧ H7 = H' ∧ σ = [some (.ref p), some (lV c), some (.ref nl), some (.ref t), some (.int ((m * j : Nat) : Int)), none, none], ⟨_, 1, rfl, by decide, hn.1, fun i h1 h2 => by omega, rfl, by rw [Nat.mul_one]; rfl⟩, ?_⟩
    rintro mm σ H' ⟨j, rfl, hj0, hjn, hno, rfl, rfl⟩
    have e1 : ((m * j : Nat) : Int) % (n : Int) = (((m * j) % n : Nat) : Int) := (Int.natCast_emod _ _).symm
    refine ⟨_, rfl, _, rfl, t, _, 1, _, rfl, rfl, ht, rfl, _, _, rfl, rfl, (by show (0 : Int) < (n : Int); omega), rfl, _, rfl, ?_⟩
    show if (!decide (V.int (((m * j : Nat) : Int) % (n : Int)) = V.int 0)) = true then _ else _
    rw [e1]
    by_cases hz : (m * j) % n = 0
    · have e2 : (!decide (V.int (((m * j) % n : Nat) : Int) = V.int 0)) = false := by rw [hz]; rfl
      rw [e2]
      have hL := lcm_of_loop hj0 hno hz hm.1
      generalize m * j = L at hL ⊢
      refine iteF ⟨_, rfl, by show 2 ≤ sizeLine; decide, fun u1 nu1 => ⟨by show 2 ≤ sizeLine; decide, fun u2 nu2 => ⟨by show 2 ≤ sizeLine; decide, fun ul nul => ?_⟩⟩⟩
      have g1 := fresh nu1 (o := .tup [.int (L : Nat), .bl true])
      have g2 := fresh nu2 (o := .tup [.bl true, .bl false])
      have g3 := fresh nul (o := .lst [.ref u1, .ref u2])
      have s7d := (g1.1.trans g2.1).trans g3.1
      have hd1 := g3.1 _ _ (g2.1 _ _ g1.2)
      have hd2 := g3.1 _ _ g2.2
      have hdl := g3.2
      generalize upd (upd (upd H7 u1 (.tup [.int (L : Nat), .bl true])) u2 (.tup [.bl true, .bl false])) ul (.lst [.ref u1, .ref u2]) = Hd at s7d hd1 hd2 hdl ⊢
      have hdue : ∃ u, atI [V.ref u1, V.ref u2] (if decide ((400 : Int) < ((L : Nat) : Int)) = true then (1 : Int) else 0) = some (.ref u) ∧ SqT K Hd u (told L) := by
        by_cases h4 : L ≤ 400
        · have e : decide ((400 : Int) < ((L : Nat) : Int)) = false := decide_eq_false (by omega)
          rw [e]
          exact ⟨u1, rfl, by unfold told; rw [if_pos h4]; exact SqT.of hd1⟩
        · have e : decide ((400 : Int) < ((L : Nat) : Int)) = true := decide_eq_true (by omega)
          rw [e]
          exact ⟨u2, rfl, by unfold told; rw [if_neg h4]; exact SqT.of hd2⟩
      obtain ⟨u, hu1, hu2⟩ := hdue
      refine ⟨_, rfl, _, _, rfl, rfl, .inr ⟨_, rfl, ul, _, _, _, rfl, rfl, SqL.of hdl, hu1, ?_⟩⟩
      refine ⟨2, rfl, by decide, by decide, for_range (lo := 0) (n := 2) (fun i σ H' => ∃ v6 : Option V, σ = [some (.ref p), some (lV c), some (.ref nl), some (.ref t), some (.int (L : Nat)), some (.ref u), v6] ∧ Same Hd H') ⟨none, rfl, Same.refl Hd⟩ ?_ ?_⟩
      · rintro i σ H8 hi ⟨v6, rfl, s8⟩
        have ht8 := sqT_same (s7d.trans s8) ht
        refine ⟨_, rfl, _, rfl, _, rfl, t, _, 0, _, rfl, rfl, ht8, rfl, c, m, rfl, hc, hm.1, by omega, fun k1 H9 s9 hk1 => ?_⟩
        refine ⟨_, rfl, _, rfl, t, _, 1, _, rfl, rfl, sqT_same s9 ht8, rfl, c, n, rfl, hc, hn.1, by omega, fun k2 H10 s10 hk2 => ?_⟩
        refine ⟨0 + (i : Nat), k1, k2, ringT c m, ringT c n, L, rfl, hk1.same s10, hk2, by rw [ring_len]; omega, by rw [ring_len]; omega, fun _ => ⟨rings_both hm.1 hn.1, fun Pp h1 h2 => by rw [← hL]; exact ringB_count hm.1 hn.1 h1 h2⟩, fun _ Pp h1 h2 => by rw [← hL]; exact ringE_count hm.1 hn.1 h1 h2, fun tp H11 s11 htp => ?_⟩
        refine ⟨_, rfl, toldD L, toldD L, told_dp (SqT.of htp), told_dp (sqT_same (((s8.trans s9).trans s10).trans s11) hu2), toldD_shaped L, toldD_shaped L, _, rfl, ?_⟩
        rw [toldD_eqv]
        exact iteF ⟨_, rfl, ((s8.trans s9).trans s10).trans s11⟩
      · rintro σ H8 ⟨v6, rfl, s8⟩
        exact k H8 (px9.same (s7d.trans s8))
    · have e2 : (!decide (V.int (((m * j) % n : Nat) : Int) = V.int 0)) = true := by
        have : ¬ V.int (((m * j) % n : Nat) : Int) = V.int 0 := fun q => hz (by injection q with q; omega)
        rw [decide_eq_false this]
        rfl
      rw [e2]
      have hjn' : j < n := by
        rcases Nat.lt_or_eq_of_le hjn with h | h
        · exact h
        · exact (hz (by rw [h]; exact Nat.mul_mod_left m n)).elim
      refine iteT ⟨fun σ' H' => ∃ mm', mm' < n - j ∧ ∃ j : Nat, mm' = n - j ∧ 0 < j ∧ j ≤ n ∧ (∀ i, 0 < i → i < j → ¬ (m * i) % n = 0) ∧ H7 = H' ∧ σ' = [some (.ref p), some (lV c), some (.ref nl), some (.ref t), some (.int ((m * j : Nat) : Int)), none, none], fun _ _ q => q, ?_⟩
      refine ⟨_, rfl, _, rfl, t, _, 0, _, rfl, rfl, ht, rfl, _, _, rfl, rfl, _, ?_, j + 1, rfl, Nat.succ_pos _, hjn', fun i h1 h2 => ?_, rfl, ?_⟩
      · omega
      · rcases Nat.lt_or_eq_of_le (Nat.lt_succ_iff.mp h2) with h | h
        · exact hno i h1 h
        · rw [h]; exact hz
      · show [some (.ref p), some (lV c), some (.ref nl), some (.ref t), some (.int (((m * j : Nat) : Int) + (m : Int))), none, none] = _
        have e3 : ((m * j : Nat) : Int) + (m : Int) = ((m * (j + 1) : Nat) : Int) := by rw [Nat.mul_succ]; omega
        rw [e3]
end
end KW
/-! KwD19: _law_unlike_right. -/
namespace KW
open PySem PySem.Spec PyProof.Rows L2
abbrev sUnlike : Stmt := top 47
theorem scUnlike : FnScope ["_law_pot_here", "_law_letters_here", "_law_many", "_law_sizes", "_law_rows", "_law_due", "_law_rings", "_law_letter", "_law_size"] ["_law_pot_here"] (defScope sUnlike) := ⟨rfl, rfl, rfl, by decide +kernel, rfl, by decide +kernel, by decide +kernel⟩
theorem toldD_eq (N : Nat) : PyData.eqv (toldD N) (toldD N) = true := SeqAt.eqv_refl _ (SeqAt.canLay_of_shaped (toldD_shaped N))
theorem refs_inj : ∀ {as bs : List Addr}, as.map V.ref = bs.map V.ref → as = bs
  | [], [], _ => rfl
  | [], _ :: _, h => by cases h
  | _ :: _, [], h => by cases h
  | a :: as, b :: bs, h => by
    injection h with h1 h2
    injection h1 with h1
    rw [h1, refs_inj h2]
/-- a kind stays where a list of kinds is changed -/
theorem KAt.put {C D k : Addr} {H : Hp} {T : Tab} {ks : List Addr} {o : HO} (h : KAt C H k T) (hD : H D = some (.lst (ks.map V.ref))) (hk : ∀ x ∈ ks, ∃ C' dx fs, H x = some (.ins C' dx fs)) : KAt C (upd H D o) k T := by
  obtain ⟨⟨dx, l, h1, h2⟩, h3, h4⟩ := h
  have kd : ∀ b u, u ≠ HO.lst (ks.map V.ref) → H b = some u → upd H D o b = some u := fun b u hu q => by rw [upd_ne (ne_of q hD hu)]; exact q
  refine ⟨⟨dx, l, kd _ _ (fun z => nomatch z) h1, ?_⟩, h3, h4⟩
  obtain ⟨as, g1, g2⟩ := h2
  have hne : l ≠ D := fun z => by
    rw [z, hD] at g1
    injection g1 with g1
    injection g1 with g1
    have e := refs_inj g1
    subst e
    obtain ⟨r, hr⟩ : ∃ r, T[0]? = some r := ⟨T[0]'h3.pos, List.getElem?_eq_getElem h3.pos⟩
    obtain ⟨a, ha, hra⟩ := paired_get' g2 hr
    obtain ⟨C', dx', fs', e⟩ := hk a (List.mem_of_getElem? ha)
    have hra' : H a = some (.dK (rowD r)) := hra
    rw [hra'] at e
    cases e
  exact ⟨as, by rw [upd_ne hne]; exact g1, paired_mono (fun a r q => kd a (.dK (rowD r)) (fun z => nomatch z) q) g2⟩
section
variable {P : Program} {w : World} {K : PySem.W.Frag} {mg : Str → Option Value} {base : Heap} {C CT CN CL CB CW : Addr}
theorem ok_unlike {f : Addr} {fd : FuncData} (Fn : Fun K "_law_unlike_right" "_law_unlike_right" sUnlike f fd) (TT : TX K mg) (Dt : Def P w K mg base CX0 1 "_law_take" ["_law_pot_here", "_law_many"] spTake) (Dl : Def P w K mg base CX0 2 "_law_letters" ["_law_pot_here", "_law_many"] spLetters)
    (Dr : Def P w K mg base CX0 7 "_law_ring" ["_law_letter", "_law_many"] (spRing C)) (Dm : Def P w K mg base CX0 10 "_law_made" ["_law_way", "_law_kind", "_law_other"] (spMade C)) : FnOk P w K mg base CX0 11 f fd ["_law_pot_here"] spCheck := by
  refine Fn.ok scUnlike (fun vs H Q E h => ?_) (fun cdv A outer s H vs Q E hr h => ?_)
  · obtain ⟨p, rfl, _⟩ := h
    rfl
  · obtain ⟨p, rfl, hp, k⟩ := h
    have hu64 := hr.units
    refine ⟨_, pss_cons (ps_set (i := 1) scUnlike.nd rfl (Or.inl rfl) (pe_callD Dl hr pass0 (pa_cons (pv 0) (pa_cons pe_int pa_nil))))
      (pss_cons (ps_set (i := 2) scUnlike.nd rfl (Or.inl rfl) (pe_op op_add pe_int (pe_callD Dt hr pass0 (pa_cons (pv 0) (pa_cons pe_int pa_nil)))))
      (pss_cons (ps_set (i := 3) scUnlike.nd rfl (Or.inl rfl) (pe_lst (pa_cons (pv 2) (pa_cons (pe_op op_add (pe_op op_sub pe_int (pv 2)) (pe_callD Dt hr pass0 (pa_cons (pv 0) (pa_cons pe_int pa_nil)))) pa_nil))))
      (pss_cons (ps_set (i := 4) scUnlike.nd rfl (Or.inl rfl) (pe_op op_add (pe_op op_add pe_int (pe_ix ix_list (pv 3) pe_int (fun _ _ => rfl))) (pe_ix ix_list (pv 3) pe_int (fun _ _ => rfl))))
      (pss_cons (ps_set (i := 5) scUnlike.nd rfl (Or.inl rfl) (pe_ix ix_list (pe_lst (pa_cons (pe_tup (pa_cons (pv 4) (pa_cons pe_bl pa_nil))) (pa_cons (pe_tup (pa_cons pe_bl (pa_cons pe_bl pa_nil))) pa_nil))) (pe_callTy call_int1 (by rfl) TT.int (by decide +kernel) (pa_cons (pe_cmpR op_gt (pv 4) pe_int (nomark _)) pa_nil)) (fun _ _ => rfl)))
      (pss_cons (ps_setLc (i := 6) (own := [("_law_letter", 7), ("_law_size", 8)]) (g := gTup K 2 (gCons (gName 7) (gCons (gName 8) gNil))) rfl scUnlike.nd rfl rfl (sw_true rfl rfl rfl (by decide +kernel)) (pi_zip (by rfl) TT.zip (pa_cons (pv 1) (pa_cons (pv 3) pa_nil)))
        (blkOk_by (N := ["_law_pot_here", "_law_letters_here", "_law_many", "_law_sizes", "_law_rows", "_law_due", "_law_rings", "_law_letter", "_law_size"]) (sc := defScope sUnlike) (by decide +kernel))
        (fun _ _ _ _ _ => pg_tup rfl (pgs_cons (pg_name (i := 7) scUnlike.nd rfl (Or.inl rfl)) (pgs_cons (pg_name (i := 8) scUnlike.nd rfl (Or.inl rfl)) pgs_nil))) (fun _ _ _ _ _ => pts_nil) (fun _ _ _ _ _ => pe_callD Dr hr pass0 (pa_cons (pv 7) (pa_cons (pv 8) pa_nil))))
      (pss_one (ps_ret (pe_and (pe_cmpR (op_eqD hu64) (pe_callD Dm hr pass0 (pa_cons pe_int (pa_cons (pe_ix ix_list (pv 6) pe_int (fun _ _ => rfl)) (pa_cons (pe_ix ix_list (pv 6) pe_int (fun _ _ => rfl)) pa_nil)))) (pv 5) (nomark _))
        (pe_one (pe_cmpR (op_eqD hu64) (pe_callD Dm hr pass0 (pa_cons pe_int (pa_cons (pe_ix ix_list (pv 6) pe_int (fun _ _ => rfl)) (pa_cons (pe_ix ix_list (pv 6) pe_int (fun _ _ => rfl)) pa_nil)))) (pv 5) (nomark _))))))))))), ?_⟩
    refine ⟨_, rfl, p, 2, rfl, hp, by decide, fun l cs H1 hcl hcs nl hl px1 => ?_⟩
    obtain ⟨c, e, rfl⟩ : ∃ c e, cs = [c, e] := by
      match cs, hcl with
      | [c, e], _ => exact ⟨c, e, rfl⟩
    have hc := hcs.2 c (by simp)
    have he := hcs.2 e (by simp)
    have hce : c ≠ e := fun z => by
      have := hcs.1
      rw [z] at this
      simp at this
    refine ⟨_, rfl, p, _, rfl, px1.2, ⟨by decide, by decide⟩, fun d1 H2 hd1 px2 => ⟨_, _, rfl, rfl, ?_⟩⟩
    refine ⟨_, rfl, _, rfl, _, _, rfl, rfl, _, rfl, p, _, rfl, px2.2, ⟨by decide, by decide⟩, fun d2 H3 hd2 px3 => ⟨_, _, rfl, rfl, by show 2 ≤ sizeLine; decide, fun sl nsl => ?_⟩⟩
    obtain ⟨m, hm⟩ : ∃ m : Nat, (2 : Int) + (d1 : Int) = (m : Int) := ⟨2 + d1, by omega⟩
    obtain ⟨n, hn⟩ : ∃ n : Nat, (398 : Int) - ((2 : Int) + (d1 : Int)) + (d2 : Int) = (n : Int) := ⟨396 - d1 + d2, by omega⟩
    have hm1 : 2 ≤ m ∧ m ≤ 397 := by omega
    have hn1 : 1 ≤ n ∧ n ≤ 399 := by omega
    have px4 := ((px1.trans px2).trans px3)
    have g1 := fresh nsl (o := .lst [.int ((2 : Int) + (d1 : Int)), .int ((398 : Int) - ((2 : Int) + (d1 : Int)) + (d2 : Int))])
    have hl3 := px3.at_ px2.2 (px2.at_ px1.2 hl fun _ _ => lV_not) fun _ _ => lV_not
    have hl4 := g1.1 _ _ hl3
    have px5 := px4.same g1.1
    have hsl := g1.2
    simp only [hn]
    simp only [hm]
    simp only [hn] at hsl hl4 px5
    simp only [hm] at hsl hl4 px5
    generalize upd H3 sl (.lst [.int (m : Int), .int (n : Int)]) = H4 at hsl hl4 px5 ⊢
    refine ⟨_, rfl, sl, _, _, _, rfl, rfl, SqL.of hsl, rfl, _, _, rfl, rfl, _, rfl, sl, _, _, _, rfl, rfl, SqL.of hsl, rfl, _, _, rfl, rfl, ?_⟩
    have hN : (1 : Int) + (m : Int) + (n : Int) = ((1 + m + n : Nat) : Int) := by omega
    simp only [hN]
    obtain ⟨L, hL⟩ : ∃ L, L = 1 + m + n := ⟨_, rfl⟩
    rw [← hL]
    refine ⟨_, rfl, by show 2 ≤ sizeLine; decide, fun u1 nu1 => ⟨by show 2 ≤ sizeLine; decide, fun u2 nu2 => ⟨by show 2 ≤ sizeLine; decide, fun ul nul => ?_⟩⟩⟩
    have f1 := fresh nu1 (o := .tup [.int (L : Nat), .bl true])
    have f2 := fresh nu2 (o := .tup [.bl true, .bl false])
    have f3 := fresh nul (o := .lst [.ref u1, .ref u2])
    have s7d := (f1.1.trans f2.1).trans f3.1
    have hd1 := f3.1 _ _ (f2.1 _ _ f1.2)
    have hd2 := f3.1 _ _ f2.2
    have hdl := f3.2
    generalize upd (upd (upd H4 u1 (.tup [.int (L : Nat), .bl true])) u2 (.tup [.bl true, .bl false])) ul (.lst [.ref u1, .ref u2]) = Hd at s7d hd1 hd2 hdl ⊢
    have hdue : ∃ u, atI [V.ref u1, V.ref u2] (if decide ((400 : Int) < ((L : Nat) : Int)) = true then (1 : Int) else 0) = some (.ref u) ∧ SqT K Hd u (told L) := by
      by_cases h4 : L ≤ 400
      · have e : decide ((400 : Int) < ((L : Nat) : Int)) = false := decide_eq_false (by omega)
        rw [e]
        exact ⟨u1, rfl, by unfold told; rw [if_pos h4]; exact SqT.of hd1⟩
      · have e : decide ((400 : Int) < ((L : Nat) : Int)) = true := decide_eq_true (by omega)
        rw [e]
        exact ⟨u2, rfl, by unfold told; rw [if_neg h4]; exact SqT.of hd2⟩
    obtain ⟨u, hu1, hu2⟩ := hdue
    refine ⟨_, rfl, _, _, rfl, rfl, .inr ⟨_, rfl, ul, _, _, _, rfl, rfl, SqL.of hdl, hu1, ?_⟩⟩
    refine ⟨_, rfl, _, rfl, l, sl, _, _, rfl, SqL.of (s7d _ _ hl4), SqL.of (s7d _ _ hsl), fun D hD => ?_⟩
    have two : ∀ (i : Nat) (x y : V), i < 2 → ([c, e].map lV)[i]? = some x → ([V.int (m : Int), V.int (n : Int)])[i]? = some y → ∃ z : Nat × Nat, [(c, m), (e, n)][i]? = some z ∧ x = lV z.1 ∧ y = .int (z.2 : Nat) ∧ (97 ≤ z.1 ∧ z.1 ≤ 122) ∧ 0 < z.2 ∧ z.2 ≤ 1000 := fun i x y hi hx hy => by
      match i, hi with
      | 0, _ => cases hx; cases hy; exact ⟨(c, m), rfl, rfl, rfl, hc, by show 0 < m; omega, by show m ≤ 1000; omega⟩
      | 1, _ => cases hx; cases hy; exact ⟨(e, n), rfl, rfl, rfl, he, by show 0 < n; omega, by show n ≤ 1000; omega⟩
    refine lc_it (walk_zip (n := 2) rfl) (fun i H' => Same Hd H' ∧ ∃ ks : List Addr, H' D = some (.lst (ks.map V.ref)) ∧ Paired (fun k (x : Nat × Nat) => KAt C H' k (ringT x.1 x.2)) ks ([(c, m), (e, n)].take i)) ⟨same_upd hD, [], upd_same, .nil⟩ (fun i H' _ q => ⟨SqL.of (q.1 _ _ (s7d _ _ hl4)), SqL.of (q.1 _ _ (s7d _ _ hsl))⟩) ?_ ?_
    · rintro i x H5 H6 hi ⟨s5, ks, hk, hks⟩ ⟨t, y, z, rfl, nt, rfl, ey, ez⟩
      obtain ⟨⟨lc, nc⟩, hz, rfl, rfl, h1, h2, h3⟩ := two i y z hi ey ez
      have s6 := sameU s5 nt (o := .tup [lV lc, .int (nc : Nat)])
      refine ⟨t, _, rfl, SqT.of upd_same, rfl, _, _, rfl, _, _, rfl, rfl, rfl, _, rfl, _, rfl, lc, nc, rfl, h1, h2, h3, fun kk H7 s7 hkk => ?_⟩
      have hk7 := s7 _ _ (same_upd nt (o := .tup [lV lc, .int (nc : Nat)]) _ _ hk)
      have hkl : ks.length ≤ 2 := by
        have := Paired.length hks
        rw [List.length_take] at this
        show ks.length ≤ 2
        simp at this
        omega
      have hins : ∀ x ∈ ks, ∃ C' dx fs, H7 x = some (.ins C' dx fs) := fun x hx => by
        obtain ⟨i0, hi0⟩ := List.getElem?_of_mem hx
        obtain ⟨z0, _, q0⟩ := paired_get hks hi0
        obtain ⟨⟨dx, la, g1, _⟩, _⟩ := q0
        exact ⟨_, _, _, s7 _ _ (same_upd nt _ _ g1)⟩
      refine ⟨_, hk7, by rw [List.length_map]; exact Nat.lt_of_le_of_lt hkl (by decide), sameP (s6.trans s7) hD, ks ++ [kk], by rw [upd_same, List.map_append]; rfl, ?_⟩
      rw [take_snoc hz]
      exact paired_snoc (R := fun k (x : Nat × Nat) => KAt C _ k (ringT x.1 x.2)) (hkk.put hk7 hins) (paired_mono (fun k x q => (q.same (Same.trans (same_upd nt) s7)).put hk7 hins) hks)
    · rintro H5 ⟨s5, ks, hk, hks⟩
      obtain ⟨k1, k2, rfl, hk1, hk2⟩ : ∃ k1 k2, ks = [k1, k2] ∧ KAt C H5 k1 (ringT c m) ∧ KAt C H5 k2 (ringT e n) := by
        cases hks with
        | cons q1 hks =>
          cases hks with
          | cons q2 hks =>
            cases hks
            exact ⟨_, _, rfl, q1, q2⟩
      have hu5 := sqT_same s5 hu2
      have hrl1 : (ringT c m).length ≤ 700 := by rw [ring_len]; omega
      have hrl2 : (ringT e n).length ≤ 700 := by rw [ring_len]; omega
      refine ⟨_, rfl, D, _, _, _, rfl, rfl, SqL.of hk, rfl, _, rfl, D, _, _, _, rfl, rfl, SqL.of hk, rfl, 1, k1, k2, ringT c m, ringT e n, L, rfl, hk1, hk2, hrl1, hrl2, fun q => (by cases q), fun _ Pp h1 h2 => by rw [hL]; exact unlike_count hce (by omega) (by omega) h1 h2, fun tp H6 s6 htp => ?_⟩
      refine ⟨_, rfl, toldD L, toldD L, told_dp (SqT.of htp), told_dp (sqT_same s6 hu5), toldD_shaped L, toldD_shaped L, _, rfl, ?_⟩
      rw [toldD_eq]
      have hk6 := s6 _ _ hk
      refine iteT ⟨_, rfl, D, _, _, _, rfl, rfl, SqL.of hk6, rfl, _, rfl, D, _, _, _, rfl, rfl, SqL.of hk6, rfl, 1, k2, k1, ringT e n, ringT c m, L, rfl, hk2.same s6, hk1.same s6, hrl2, hrl1, fun q => (by cases q), fun _ Pp h1 h2 => by rw [unlike_count (Ne.symm hce) (by omega) (by omega) h1 h2]; omega, fun tp2 H7 s7 htp2 => ?_⟩
      refine ⟨_, rfl, toldD L, toldD L, told_dp (SqT.of htp2), told_dp (sqT_same s7 (sqT_same s6 hu5)), toldD_shaped L, toldD_shaped L, ?_⟩
      rw [toldD_eq]
      exact k H7 (px5.same (((s7d.trans s5).trans s6).trans s7))
end
end KW
/-! KwD20: _law_ended_right. -/
namespace KW
open PySem PySem.Spec PyProof.Rows L2
abbrev sEnded : Stmt := top 48
theorem swap_goes {T U : Tab} {p : PK} (h : Reach (dB T U) pk0 p ∧ Goes (dB T U) p) : Reach (dB U T) pk0 (swapP p) ∧ Goes (dB U T) (swapP p) := by
  obtain ⟨⟨w, hw⟩, hg⟩ := h
  have hb := (goesB hw).mp hg
  rw [runB0] at hw
  obtain ⟨e, i, j, e1, e2⟩ := joinB_some hw
  have hr : runD (dB U T) pk0 w = some (swapP p) := by
    rw [runB0, e1, e2, e, e1, e2]
    rfl
  exact ⟨⟨w, hr⟩, (goesB hr).mpr hb.symm⟩
theorem swap_list {T U : Tab} {Pp : List PK} (hn : Pp.Nodup) (h : ∀ p, p ∈ Pp ↔ Reach (dB T U) pk0 p ∧ Goes (dB T U) p) : (Pp.map swapP).Nodup ∧ ∀ p, p ∈ Pp.map swapP ↔ Reach (dB U T) pk0 p ∧ Goes (dB U T) p := by
  refine ⟨nodup_map_on _ hn fun x _ y _ e => Prod.ext (congrArg Prod.snd e) (congrArg Prod.fst e), fun p => ?_⟩
  rw [List.mem_map]
  constructor
  · rintro ⟨q, hq, e⟩
    subst e
    exact swap_goes ((h q).mp hq)
  · intro q
    exact ⟨swapP p, (h _).mpr (swap_goes q), rfl⟩
/-- what is known of the two kinds, in either order -/
structure EndOk (a : Nat) (sh : Bool) (T U : Tab) : Prop where
  both : Both T U [] ↔ sh = false
  words : sh = false → ∀ w, Both T U w ↔ ∀ e ∈ w, e = a
  few : ∀ Pp : List PK, Pp.Nodup → (∀ p, p ∈ Pp ↔ Reach (dB T U) pk0 p ∧ Goes (dB T U) p) → Pp.length ≤ 1 ∧ (sh = false → Pp.length = 1)
theorem endOk {a b c N : Nat} {sh : Bool} (hN : 0 < N) (hab : a ≠ b) (hbc : b ≠ c) : EndOk a sh (chainT a b c N sh) (besideT a b) := by
  refine ⟨ended_goes hN hab hbc, fun h => ?_, fun Pp hn hm => ?_⟩
  · subst h
    exact ended_words hN hab hbc
  · cases sh with
    | false =>
      have := ended_pairs hN hab hbc hn hm
      exact ⟨by omega, fun _ => this⟩
    | true =>
      have h1 : ¬ Both (chainT a b c N true) (besideT a b) [] := fun q => by
        have := (ended_goes hN hab hbc).mp q
        cases this
      rw [(pairsB_empty hm).mpr h1]
      exact ⟨Nat.zero_le _, fun q => (by cases q)⟩
theorem EndOk.swap {a : Nat} {sh : Bool} {T U : Tab} (h : EndOk a sh T U) : EndOk a sh U T :=
  ⟨(both_comm []).trans h.both, fun q w => (both_comm w).trans (h.words q w), fun Pp hn hm => by
    obtain ⟨h1, h2⟩ := swap_list hn hm
    have := h.few _ h1 h2
    rwa [List.length_map] at this⟩
theorem rowD_inj : ∀ {r q : Row}, rowD r = rowD q → r = q
  | [], [], _ => rfl
  | [], _ :: _, h => by cases h
  | _ :: _, [], h => by cases h
  | (a, m) :: r, (b, n) :: q, h => by
    have h' : ((Sum.inr (lt a) : Key), V.int (m : Nat)) :: rowD r = (Sum.inr (lt b), V.int (n : Nat)) :: rowD q := h
    injection h' with h1 h2
    injection h1 with h3 h4
    injection h3 with h3
    injection h4 with h4
    rw [lt_inj h3, Int.ofNat.inj h4, rowD_inj h2]
/-- the first row of a table is changed; no other row is like it -/
theorem tab_first {H : Hp} {l a0 : Addr} {as : List Addr} {r0 r1 : Row} {T : Tab} (hl : H l = some (.lst ((a0 :: as).map V.ref))) (h : Paired (RowAt H) (a0 :: as) (r0 :: T)) (hne : ∀ r ∈ T, r ≠ r0) : TabAt (upd H a0 (.dK (rowD r1))) l (r1 :: T) := by
  cases h with
  | cons h0 ht =>
    have h0' : H a0 = some (.dK (rowD r0)) := h0
    refine ⟨a0 :: as, by rw [upd_ne (ne_of hl h0' (fun z => nomatch z))]; exact hl, .cons (upd_same : upd H a0 _ a0 = _) ?_⟩
    clear hl h0
    induction ht with
    | nil => exact .nil
    | @cons x r xs rs q t ih =>
      refine .cons ?_ (ih fun r hr => hne r (List.mem_cons_of_mem _ hr))
      have q' : H x = some (.dK (rowD r)) := q
      have hx : x ≠ a0 := fun z => by
        rw [z, h0'] at q'
        injection q' with q'
        injection q' with q'
        exact hne r List.mem_cons_self (rowD_inj q'.symm)
      show upd H a0 _ x = _
      rw [upd_ne hx]
      exact q'
theorem fresh2 {H : Hp} {p : Addr} {o u : HO} (h : H p = none) : Same H (upd (upd H p o) p u) ∧ upd (upd H p o) p u p = some u := ⟨sameP (same_upd h) h, upd_same⟩
theorem merge_row {r : Row} (h : (r.map (·.1)).Nodup) : mergeK [] (rowD r) = rowD r := by
  rw [mergeK_nodup, List.nil_append]
  rw [List.nil_append, rowD_keys, List.map_map]
  exact nodup_map_on _ h fun x _ y _ q => lt_inj (Sum.inr.inj q)
theorem PX.free {p x : Addr} {H H' : Hp} (a : PX p H H') (h : H' x = none) : H x = none := by
  cases e : H x with
  | none => rfl
  | some o =>
    have hne : x ≠ p := fun z => by
      obtain ⟨c, q, hc⟩ := a.2
      rw [z, hc] at h
      cases h
    rw [a.1 x o hne e] at h
    cases h
theorem chain_head (a b c M : Nat) (hbc : b ≠ c) : ∃ T1 : Tab, chainT a b c (M + 1) true = [(b, 1)] :: T1 ∧ chainT a b c (M + 1) false = [(b, 1), (a, 0)] :: T1 ∧ ∀ r ∈ T1, r ≠ [(b, 1)] := by
  refine ⟨(List.range M).map (fun k => [(b, k + 2)]) ++ [[(c, M + 1)]], ?_, ?_, fun r hr => ?_⟩
  · unfold chainT
    rw [List.range_succ_eq_map, List.map_cons, List.map_map]
    simp
  · unfold chainT
    rw [List.range_succ_eq_map, List.map_cons, List.map_map]
    simp
  · rcases List.mem_append.mp hr with h | h
    · obtain ⟨k, _, e⟩ := List.mem_map.mp h
      subst e
      simp
    · have e : r = [(c, M + 1)] := by simpa using h
      subst e
      intro z
      injection z with z _
      injection z with z _
      exact hbc z.symm
theorem scEnded : FnScope ["_law_pot_here", "_law_a", "_law_b", "_law_c", "_law_many", "_law_rows", "_law_chain", "_law_short", "_law_one", "_law_two", "_law_found", "_law_k"] ["_law_pot_here"] (defScope sEnded) := ⟨rfl, rfl, rfl, by decide +kernel, rfl, by decide +kernel, by decide +kernel⟩
section
variable {P : Program} {w : World} {K : PySem.W.Frag} {mg : Str → Option Value} {base : Heap} {C CT CN CL CB CW : Addr}
theorem ok_ended {f : Addr} {fd : FuncData} (Fn : Fun K "_law_ended_right" "_law_ended_right" sEnded f fd) (TT : TX K mg) (TC : TK K mg C) (Dt : Def P w K mg base CX0 1 "_law_take" ["_law_pot_here", "_law_many"] spTake) (Dl : Def P w K mg base CX0 2 "_law_letters" ["_law_pot_here", "_law_many"] spLetters)
    (DI : DefI P w K mg base 5 C ["self", "table"] (spInit C)) (D1 : DefM P w K mg base CX0 1 C "table" ["self"] (spTab C)) (Lb : Def P w K mg base CX0 9 "_law_both" ["_law_kind", "_law_other"] (spLBoth C)) : FnOk P w K mg base CX0 10 f fd ["_law_pot_here"] spCheck := by
  refine Fn.ok scEnded (fun vs H Q E h => ?_) (fun cdv A outer s H vs Q E hr h => ?_)
  · obtain ⟨p, rfl, _⟩ := h
    rfl
  · obtain ⟨p, rfl, hp, k⟩ := h
    have hu := hu_of hr
    refine ⟨_, pss_cons (ps_asg (pe_callD Dl hr pass0 (pa_cons (pv 0) (pa_cons pe_int pa_nil))) (pg_unl rfl (pgs_cons (pg_name (i := 1) scEnded.nd rfl (Or.inl rfl)) (pgs_cons (pg_name (i := 2) scEnded.nd rfl (Or.inr rfl)) (pgs_cons (pg_name (i := 3) scEnded.nd rfl (Or.inl rfl)) pgs_nil)))))
      (pss_cons (ps_set (i := 4) scEnded.nd rfl (Or.inl rfl) (pe_op op_add pe_int (pe_callD Dt hr pass0 (pa_cons (pv 0) (pa_cons pe_int pa_nil)))))
      (pss_cons (ps_set (i := 5) scEnded.nd rfl (Or.inl rfl) (pe_lst (pa_cons (pe_disp (pps_cons (pv 1) pe_int (pps_cons (pv 2) pe_int pps_nil)) (by rfl) (by rfl) (fun z => by cases z) (by decide)) (pa_cons (pe_disp (pps_cons (pv 2) pe_int pps_nil) (by rfl) (by rfl) (fun z => by cases z) (by decide)) pa_nil))))
      (pss_cons (ps_set (i := 6) scEnded.nd rfl (Or.inl rfl) (pe_op op_cat (pe_lc (own := [("_law_k", 11)]) (g := gName 11) (tt := tYes) rfl scEnded.nd (pi_range1 (by rfl) TT.range (pa_cons (pv 4) pa_nil))
          (blkOk_by (N := ["_law_pot_here", "_law_a", "_law_b", "_law_c", "_law_many", "_law_rows", "_law_chain", "_law_short", "_law_one", "_law_two", "_law_found", "_law_k"]) (sc := defScope sEnded) (by decide +kernel))
          (fun _ _ _ _ _ => pg_name (i := 11) scEnded.nd rfl (Or.inl rfl)) (fun _ _ _ _ _ => pts_nil) (fun _ _ _ _ _ => pe_disp (pps_cons (pv 2) (pe_op op_add (pv 11) pe_int) pps_nil) (by rfl) (by rfl) (fun z => by cases z) (by decide)))
        (pe_lst (pa_cons (pe_disp (pps_cons (pv 3) (pv 4) pps_nil) (by rfl) (by rfl) (fun z => by cases z) (by decide)) pa_nil))))
      (pss_cons (ps_set (i := 7) scEnded.nd rfl (Or.inl rfl) (pe_callD Dt hr pass0 (pa_cons (pv 0) (pa_cons pe_int pa_nil))))
      (pss_cons (ps_if (pt_cmpR op_eq (pv 7) pe_int (nomark _)) (pss_one (ps_dput hu (pe_ix ix_list (pv 6) pe_int (fun _ _ => rfl)) (pv 1) pe_int rfl)) pss_nil)
      (pss_cons (ps_for PassesOwn.never rfl (pi_list (pe_lst (pa_cons (pe_tup (pa_cons (pe_makeD DI hr TC.mgC (pa_cons (pv 6) pa_nil) pass0) (pa_cons (pe_makeD DI hr TC.mgC (pa_cons (pv 5) pa_nil) pass0) pa_nil)))
            (pa_cons (pe_tup (pa_cons (pe_makeD DI hr TC.mgC (pa_cons (pv 5) pa_nil) pass0) (pa_cons (pe_makeD DI hr TC.mgC (pa_cons (pv 6) pa_nil) pass0) pa_nil))) pa_nil))))
          (pg_tup rfl (pgs_cons (pg_name (i := 8) scEnded.nd rfl (Or.inl rfl)) (pgs_cons (pg_name (i := 9) scEnded.nd rfl (Or.inl rfl)) pgs_nil)))
        (pss_cons (ps_set (i := 10) scEnded.nd rfl (Or.inl rfl) (pe_callD Lb hr pass0 (pa_cons (pv 8) (pa_cons (pv 9) pa_nil))))
        (pss_cons (ps_if (PW.pt (pw_or (PW.pt (pw_and (pt_cmpR op_eq (pv 7) pe_int (nomark _)) (pw_and1 (pt_cmpR op_notN (pv 10) pe_non (nomark _))))) (pw_or1 (PW.pt (pw_and (pt_cmpR op_eq (pv 7) pe_int (nomark _)) (pw_and1 (pt_cmpR op_isN (pv 10) pe_non (nomark _))))))))
          (pss_one (ps_ret pe_bl)) pss_nil)
        (pss_one (ps_if (PW.pt (pw_and (pt_cmpR op_notN (pv 10) pe_non (nomark _)) (pw_and1 (pt_cmpR (op_neRow1 hu) (pe_methD0 D1 TC.cls hr pass0 (pv 10)) (pe_lst (pa_cons (pe_disp (pps_cons (pv 1) pe_int pps_nil) (by rfl) (by rfl) (fun z => by cases z) (by decide)) pa_nil)) (nomark _)))))
          (pss_one (ps_ret pe_bl)) pss_nil)))))
      (pss_one (ps_ret pe_bl)))))))), ?_⟩
    refine ⟨_, rfl, p, 3, rfl, hp, by decide, fun l cs H1 hcl hcs nl hl px1 => ?_⟩
    obtain ⟨a, b, c, rfl⟩ : ∃ a b c, cs = [a, b, c] := by
      match cs, hcl with
      | [a, b, c], _ => exact ⟨a, b, c, rfl⟩
    have ha := hcs.2 a (by simp)
    have hb := hcs.2 b (by simp)
    have hc := hcs.2 c (by simp)
    have hab : a ≠ b := fun z => by
      have := hcs.1
      rw [z] at this
      simp at this
    have hbc : b ≠ c := fun z => by
      have := hcs.1
      rw [z] at this
      simp at this
    refine ⟨l, _, rfl, SqL.of hl, rfl, _, _, rfl, _, _, rfl, _, _, rfl, rfl, ?_⟩
    refine ⟨_, rfl, p, _, rfl, px1.2, ⟨by decide, by decide⟩, fun d1 H2 hd1 px2 => ⟨_, _, rfl, rfl, ?_⟩⟩
    obtain ⟨N, hN⟩ : ∃ N : Nat, (400 : Int) + (d1 : Int) = (N : Int) := ⟨400 + d1, by omega⟩
    simp only [hN]
    have hN1 : 400 ≤ N ∧ N ≤ 459 := by omega
    have px12 := px1.trans px2
    -- rows
    refine fun r0 nr0 => ⟨_, rfl, _, rfl, upd_same, rowD [(a, 0), (b, 1)], rfl, by show 2 ≤ 15; decide, fun r1 nr1 => ⟨_, rfl, upd_same, rowD [(b, 1)], rfl, by show 1 ≤ 15; decide, by show 2 ≤ sizeLine; decide, fun rl nrl => ?_⟩⟩
    have hmk0 : mergeK [] (rowD [(a, 0), (b, 1)]) = rowD [(a, 0), (b, 1)] := merge_row (by simp [hab])
    have hmk1 : mergeK [] (rowD [(b, 1)]) = rowD [(b, 1)] := merge_row (by simp)
    simp only [hmk0] at nr1
    simp only [hmk0, hmk1] at nrl ⊢
    have f0 := fresh2 nr0 (o := .dK []) (u := .dK (rowD [(a, 0), (b, 1)]))
    have f1 := fresh2 nr1 (o := .dK []) (u := .dK (rowD [(b, 1)]))
    have f2 := fresh nrl (o := .lst [.ref r0, .ref r1])
    have pxc := px12.same ((f0.1.trans f1.1).trans f2.1)
    have hRc : TabAt _ rl (besideT a b) := ⟨[r0, r1], f2.2, .cons (f2.1 _ _ (f1.1 _ _ f0.2)) (.cons (f2.1 _ _ f1.2) .nil)⟩
    generalize upd (upd (upd (upd (upd H2 r0 (.dK [])) r0 (.dK (rowD [(a, 0), (b, 1)]))) r1 (.dK [])) r1 (.dK (rowD [(b, 1)]))) rl (.lst [.ref r0, .ref r1]) = Hc at pxc hRc ⊢
    clear f0 f1 f2 nr0 nr1 nrl px12 hmk0
    -- chain
    refine ⟨_, rfl, (N : Int), rfl, by omega, by omega, fun D hD => ?_⟩
    refine lc_range (lo := 0) (n := (N : Int).toNat) (fun i H' => Same Hc H' ∧ ∃ as : List Addr, H' D = some (.lst (as.map V.ref)) ∧ Paired (fun a r => RowAt H' a r ∧ Hc a = none) as (((List.range N).map fun k => ([(b, k + 1)] : Row)).take i)) ⟨same_upd hD, [], upd_same, .nil⟩ ?_ ?_
    · rintro i H3 hi ⟨s3, as, hDl, has⟩
      have hi' : i < N := by simpa using hi
      have hnth : ((List.range N).map fun k => ([(b, k + 1)] : Row))[i]? = some [(b, i + 1)] := by
        rw [List.getElem?_map, List.getElem?_range hi']
        rfl
      have e1 : ((0 : Int) + (i : Int)) + 1 = ((i + 1 : Nat) : Int) := by omega
      have hmk : mergeK [] (rowD [(b, i + 1)]) = rowD [(b, i + 1)] := merge_row (by simp)
      refine ⟨rfl, fun d nd => ⟨_, rfl, _, rfl, _, _, rfl, rfl, upd_same, rowD [(b, i + 1)], (by show [(lV b, V.int ((0 : Int) + (i : Int) + 1))] = _; rw [e1]; rfl), by show 1 ≤ 15; decide, ?_⟩⟩
      rw [hmk]
      have fd := fresh2 nd (o := .dK []) (u := .dK (rowD [(b, i + 1)]))
      have hDl2 := fd.1 _ _ hDl
      have hal : as.length ≤ 459 := by
        have := Paired.length has
        rw [List.length_take, List.length_map, List.length_range] at this
        omega
      refine ⟨_, hDl2, by rw [List.length_map]; exact Nat.lt_of_le_of_lt hal (by decide), sameP (s3.trans fd.1) hD, as ++ [d], by rw [upd_same, List.map_append]; rfl, ?_⟩
      rw [take_snoc hnth]
      have kd : ∀ x (r : Row), upd (upd H3 d (.dK [])) d (.dK (rowD [(b, i + 1)])) x = some (.dK (rowD r)) → upd (upd (upd H3 d (.dK [])) d (.dK (rowD [(b, i + 1)]))) D (.lst (as.map V.ref ++ [.ref d])) x = some (.dK (rowD r)) := fun x r q => by
        rw [upd_ne (ne_of q hDl2 (fun z => nomatch z))]
        exact q
      exact paired_snoc (R := fun a r => RowAt _ a r ∧ Hc a = none) ⟨kd _ _ fd.2, s3.free nd⟩ (paired_mono (fun x r q => ⟨kd _ _ (fd.1 _ _ q.1), q.2⟩) has)
    · rintro H3 ⟨s3, as, hDl, has⟩
      have htk : ((List.range N).map fun k => ([(b, k + 1)] : Row)).take (N : Int).toNat = (List.range N).map fun k => ([(b, k + 1)] : Row) := List.take_of_length_le (by simp)
      rw [htk] at has
      have hal : as.length ≤ 459 := by
        have := Paired.length has
        rw [List.length_map, List.length_range] at this
        omega
      have hmk : mergeK [] (rowD [(c, N)]) = rowD [(c, N)] := merge_row (by simp)
      refine fun r2 nr2 => ⟨_, rfl, _, rfl, upd_same, rowD [(c, N)], rfl, by show 1 ≤ 15; decide, by show 1 ≤ sizeLine; decide, ?_⟩
      rw [hmk]
      refine fun l2 nl2 => ?_
      have g2 := fresh2 nr2 (o := .dK []) (u := .dK (rowD [(c, N)]))
      have g3 := fresh nl2 (o := .lst [.ref r2])
      have s35 := g2.1.trans g3.1
      refine ⟨D, l2, as.map V.ref, [.ref r2], rfl, rfl, s35 _ _ hDl, g3.2, by rw [List.length_map]; exact Nat.le_trans (by show as.length + 1 ≤ 460; omega) (by decide), fun ch nch => ?_⟩
      have g4 := fresh nch (o := .lst (as.map V.ref ++ [.ref r2]))
      have s36 := s35.trans g4.1
      have hch6 := g4.2
      have hr26 := g4.1 _ _ (g3.1 _ _ g2.2)
      have nr2c : Hc r2 = none := s3.free nr2
      generalize upd (upd (upd (upd H3 r2 (.dK [])) r2 (.dK (rowD [(c, N)]))) l2 (.lst [.ref r2])) ch (.lst (as.map V.ref ++ [.ref r2])) = H6 at s36 hch6 hr26 ⊢
      have hch6' : H6 ch = some (.lst ((as ++ [r2]).map V.ref)) := by rw [hch6, List.map_append]; rfl
      have has6 : Paired (fun a r => RowAt H6 a r ∧ Hc a = none) (as ++ [r2]) (chainT a b c N true) := by
        have eT : chainT a b c N true = ((List.range N).map fun k => ([(b, k + 1)] : Row)) ++ [[(c, N)]] := by
          unfold chainT
          simp
        rw [eT]
        exact paired_snoc ⟨hr26, nr2c⟩ (paired_mono (fun x r q => ⟨s36 _ _ q.1, q.2⟩) has)
      have s3c6 := s3.trans s36
      have px6 := pxc.same s3c6
      refine ⟨_, rfl, p, _, rfl, px6.2, ⟨by decide, by decide⟩, fun d2 H7 hd2 px7 => ?_⟩
      have px67 := px6.trans px7
      have hch7 := px7.at_ px6.2 hch6' fun _ _ => refs_not
      have has7 : Paired (fun a r => RowAt H7 a r ∧ Hc a = none) (as ++ [r2]) (chainT a b c N true) := paired_mono (fun x r q => ⟨px7.at_ px6.2 q.1 fun _ _ z => (nomatch z), q.2⟩) has6
      obtain ⟨M, rfl⟩ : ∃ M, N = M + 1 := ⟨N - 1, by omega⟩
      obtain ⟨T1, eT1, eT0, hT1⟩ := chain_head a b c M hbc
      obtain ⟨a0, as0, eas⟩ : ∃ a0 as0, as ++ [r2] = a0 :: as0 := by
        cases as with
        | nil => exact ⟨_, _, rfl⟩
        | cons x xs => exact ⟨_, _, rfl⟩
      rw [eas] at hch7 has7
      have hRl7 : TabAt H7 rl (besideT a b) := (hRc.same s3c6).px px7 px6.2
      have cases2 : d2 = 0 ∨ d2 = 1 := by omega
      refine ⟨_, rfl, rfl, _, rfl, ?_⟩
      rcases cases2 with rfl | rfl
      · have e0 : decide (V.int ((0 : Nat) : Int) = V.int 0) = true := rfl
        rw [e0]
        rw [eT1] at has7
        have h0 : H7 a0 = some (.dK (rowD [(b, 1)])) ∧ Hc a0 = none := by
          cases has7 with
          | cons q _ => exact q
        have hDP : DPut H7 a0 (lV a) (V.int ((0 : Nat) : Int)) (upd H7 a0 (.dK (putK (rowD [(b, 1)]) (Sum.inr (lt a)) (V.int ((0 : Nat) : Int))))) := DPut.k (k := Sum.inr (lt a)) h0.1 (by show 1 < sizeLine; decide)
        rw [putK_row (by simp [hab])] at hDP
        refine iteT ⟨_, rfl, ch, _, 0, _, rfl, rfl, SqL.of hch7, atI_nat (xs := (a0 :: as0).map V.ref) (j := 0) rfl, _, rfl, a0, _, rfl, hDP, ?_⟩
        have hCh : TabAt (upd H7 a0 (.dK (rowD ([(b, 1)] ++ [(a, 0)])))) ch (chainT a b c (M + 1) false) := by
          rw [eT0]
          exact tab_first hch7 (paired_mono (fun x r q => q.1) has7) hT1
        have hRl : TabAt (upd H7 a0 (.dK (rowD ([(b, 1)] ++ [(a, 0)])))) rl (besideT a b) := by
          have kc : ∀ x o, (∀ c m : Int, o ≠ HO.lst [.int c, .int m]) → Hc x = some o → upd H7 a0 (.dK (rowD ([(b, 1)] ++ [(a, 0)]))) x = some o := fun x o hn q => by
            rw [upd_ne (ne_of_none q h0.2)]
            exact px7.at_ px6.2 (s3c6 _ _ q) hn
          exact hRc.keep (fun as q => kc _ _ (fun _ _ => refs_not) q) fun x kvs q => kc _ _ (fun _ _ z => nomatch z) q
        have px8 : PX p H (upd H7 a0 (.dK (rowD ([(b, 1)] ++ [(a, 0)])))) := px67.put (pxc.free h0.2) hp
        generalize upd H7 a0 (.dK (rowD ([(b, 1)] ++ [(a, 0)]))) = H8 at hCh hRl px8 ⊢
        have wCH := chain_wf (sh := false) (show 0 < M + 1 by omega) hab ha hb hc
        have wBE := beside_wf hab ha hb
        have hEnd : EndOk a false (chainT a b c (M + 1) false) (besideT a b) := endOk (by omega) hab hbc
        have lCH : (chainT a b c (M + 1) false).length ≤ 460 := by rw [chain_len]; omega
        have lBE : (besideT a b).length ≤ 2 := Nat.le_refl _
        refine ⟨_, rfl, fun k1 x1 n1 n1' ne1 => kind_make (C := C) hCh wCH (by omega) n1 n1' ne1 fun K1 t1 hk1 => ?_⟩
        refine ⟨_, rfl, fun k2 x2 n2 n2' ne2 => kind_make (C := C) (hRl.same t1) wBE (by omega) n2 n2' ne2 fun K2 t2 hk2 => ?_⟩
        refine ⟨by show 2 ≤ sizeLine; decide, fun u1 nu1 => ?_⟩
        have g1 := fresh nu1 (o := .tup [.ref k1, .ref k2])
        refine ⟨_, rfl, fun k3 x3 n3 n3' ne3 => kind_make (C := C) (((hRl.same t1).same t2).same g1.1) wBE (by omega) n3 n3' ne3 fun K3 t3 hk3 => ?_⟩
        refine ⟨_, rfl, fun k4 x4 n4 n4' ne4 => kind_make (C := C) ((((hCh.same t1).same t2).same g1.1).same t3) wCH (by omega) n4 n4' ne4 fun K4 t4 hk4 => ?_⟩
        refine ⟨by show 2 ≤ sizeLine; decide, fun u2 nu2 => ?_⟩
        have g2 := fresh nu2 (o := .tup [.ref k3, .ref k4])
        refine ⟨by show 2 ≤ sizeLine; decide, fun ul nul => ?_⟩
        have g3 := fresh nul (o := .lst [.ref u1, .ref u2])
        have sF : Same H8 _ := ((((((t1.trans t2).trans g1.1).trans t3).trans t4).trans g2.1).trans g3.1)
        have two : ∀ x ∈ [V.ref u1, V.ref u2], ∃ (u ka kb : Addr) (T U : Tab), x = .ref u ∧ SqT K (upd (upd K4 u2 (.tup [.ref k3, .ref k4])) ul (.lst [.ref u1, .ref u2])) u [.ref ka, .ref kb] ∧ KAt C (upd (upd K4 u2 (.tup [.ref k3, .ref k4])) ul (.lst [.ref u1, .ref u2])) ka T ∧ KAt C (upd (upd K4 u2 (.tup [.ref k3, .ref k4])) ul (.lst [.ref u1, .ref u2])) kb U ∧ T.length ≤ 460 ∧ U.length ≤ 460 ∧ EndOk a false T U := fun x hx => by
          have s3f := (t3.trans t4).trans (g2.1.trans g3.1)
          rcases List.mem_cons.mp hx with e | hx
          · exact ⟨u1, k1, k2, _, _, e, SqT.of (s3f _ _ g1.2), ((hk1.same t2).same g1.1).same s3f, (hk2.same g1.1).same s3f, lCH, by omega, hEnd⟩
          · have e : x = .ref u2 := by simpa using hx
            exact ⟨u2, k3, k4, _, _, e, SqT.of (g3.1 _ _ g2.2), ((hk3.same t4).same g2.1).same g3.1, (hk4.same g2.1).same g3.1, by omega, lCH, hEnd.swap⟩
        have pxF : PX p H _ := px8.same sF
        have hulF := g3.2
        generalize upd (upd K4 u2 (.tup [.ref k3, .ref k4])) ul (.lst [.ref u1, .ref u2]) = HF at two pxF hulF ⊢
        refine ⟨ul, rfl, ⟨_, SqL.of hulF⟩, for_list (K := K) (a := ul) (xs := [.ref u1, .ref u2]) (fun i σ H' => ∃ (v8 v9 v10 : Option V), σ = [some (.ref p), some (lV a), some (lV b), some (lV c), some (.int (M + 1 : Nat)), some (.ref rl), some (.ref ch), some (.int ((0 : Nat) : Int)), v8, v9, v10, none] ∧ Same HF H') ⟨none, none, none, rfl, Same.refl HF⟩ (fun i σ H' _ ⟨_, _, _, _, q⟩ => SqL.of (q _ _ hulF)) ?_ ?_⟩
        · rintro i x σ H9 hx ⟨v8, v9, v10, rfl, s9⟩
          obtain ⟨u, ka, kb, T, U, rfl, hu, hka, hkb, lT, lU, hE⟩ := two x (List.mem_of_getElem? hx)
          refine ⟨u, _, rfl, sqT_same s9 hu, rfl, _, _, rfl, _, _, rfl, rfl, ?_⟩
          refine ⟨_, rfl, _, rfl, ka, kb, T, U, rfl, hka.same s9, hkb.same s9, by omega, by omega, fun Pp hn hm => Nat.le_trans (hE.few Pp hn hm).1 (by decide), fun v r H10 s10 hv hr => ?_⟩
          -- a kind must come
          obtain ⟨W, rfl⟩ : ∃ W, r = some W := by
            cases r with
            | none => exact (hr (hE.both.mpr rfl)).elim
            | some W => exact ⟨W, rfl⟩
          have hnon : decide (v = .non) = false := hv.non
          obtain ⟨kk, rfl, hk⟩ := hv
          have hW : W = [[(a, 0)]] := by
            obtain ⟨hb0, Pp, hm, _⟩ := hr
            refine one_row hm.wf ?_ fun w => ?_
            · rw [hm.len]
              exact (hE.few Pp hm.nodup hm.mem).2 rfl
            · rw [madeB_of hm, hE.words rfl]
          subst hW
          obtain ⟨⟨dx, la, hkat, _⟩, _⟩ := id hk
          have e1 : decide (V.int ((0 : Nat) : Int) = V.int 1) = false := rfl
          have e0 : decide (V.int ((0 : Nat) : Int) = V.int 0) = true := rfl
          refine ⟨_, rfl, rfl, _, rfl, ?_⟩
          rw [e1]
          refine iteF (iteF ⟨_, rfl, rfl, _, rfl, ?_⟩)
          rw [e0]
          refine iteT ⟨_, rfl, rfl, _, rfl, ?_⟩
          rw [hnon]
          refine iteF ⟨_, rfl, rfl, _, rfl, ?_⟩
          rw [hnon]
          refine iteT ⟨_, rfl, kk, dx, _, rfl, hkat, lk_no _ (by decide +kernel), kk, [[(a, 0)]], rfl, hk, fun l1 H11 s11 ht => ?_⟩
          obtain ⟨as1, hl1, has1⟩ := ht
          obtain ⟨ra1, rfl, hra1⟩ : ∃ ra1, as1 = [ra1] ∧ RowAt H11 ra1 [(a, 0)] := by
            cases has1 with
            | cons q1 q2 =>
              cases q2
              exact ⟨_, rfl, q1⟩
          have hmk : mergeK [] (rowD [(a, 0)]) = rowD [(a, 0)] := merge_row (by simp)
          refine fun r9 nr9 => ⟨_, rfl, upd_same, rowD [(a, 0)], rfl, by show 1 ≤ 15; decide, by show 1 ≤ sizeLine; decide, ?_⟩
          rw [hmk]
          refine fun l9 nl9 => ?_
          have f9 := fresh2 nr9 (o := .dK []) (u := .dK (rowD [(a, 0)]))
          have f10 := fresh nl9 (o := .lst [.ref r9])
          have s99 := f9.1.trans f10.1
          have hra1' : H11 ra1 = some (.dK (rowD [(a, 0)])) := hra1
          refine ⟨l1, l9, ra1, r9, rowD [(a, 0)], rowD [(a, 0)], rfl, rfl, s99 _ _ hl1, f10.2, ne_of_none hra1' nr9, s99 _ _ hra1', f10.1 _ _ f9.2, rfl, fun q hq => ?_, _, rfl, iteF ⟨some (.ref ka), some (.ref kb), _, rfl, ((s9.trans s10).trans s11).trans s99⟩⟩
          have eq : q = (Sum.inr (lt a), V.int ((0 : Nat) : Int)) := by simpa [rowD] using hq
          subst eq
          refine ⟨?_, rfl⟩
          rw [valV_rowD]
          simp [List.lookup]
        · rintro σ H9 ⟨v8, v9, v10, rfl, s9⟩
          exact k H9 (pxF.same s9)
      · have e0 : decide (V.int ((1 : Nat) : Int) = V.int 0) = false := rfl
        rw [e0]
        refine iteF ?_
        have hCh : TabAt H7 ch (chainT a b c (M + 1) true) := ⟨a0 :: as0, hch7, paired_mono (fun x r q => q.1) has7⟩
        have hRl := hRl7
        have px8 := px67
        generalize H7 = H8 at hCh hRl px8 ⊢
        have wCH := chain_wf (sh := true) (show 0 < M + 1 by omega) hab ha hb hc
        have wBE := beside_wf hab ha hb
        have hEnd : EndOk a true (chainT a b c (M + 1) true) (besideT a b) := endOk (by omega) hab hbc
        have lCH : (chainT a b c (M + 1) true).length ≤ 460 := by rw [chain_len]; omega
        have lBE : (besideT a b).length ≤ 2 := Nat.le_refl _
        refine ⟨_, rfl, fun k1 x1 n1 n1' ne1 => kind_make (C := C) hCh wCH (by omega) n1 n1' ne1 fun K1 t1 hk1 => ?_⟩
        refine ⟨_, rfl, fun k2 x2 n2 n2' ne2 => kind_make (C := C) (hRl.same t1) wBE (by omega) n2 n2' ne2 fun K2 t2 hk2 => ?_⟩
        refine ⟨by show 2 ≤ sizeLine; decide, fun u1 nu1 => ?_⟩
        have g1 := fresh nu1 (o := .tup [.ref k1, .ref k2])
        refine ⟨_, rfl, fun k3 x3 n3 n3' ne3 => kind_make (C := C) (((hRl.same t1).same t2).same g1.1) wBE (by omega) n3 n3' ne3 fun K3 t3 hk3 => ?_⟩
        refine ⟨_, rfl, fun k4 x4 n4 n4' ne4 => kind_make (C := C) ((((hCh.same t1).same t2).same g1.1).same t3) wCH (by omega) n4 n4' ne4 fun K4 t4 hk4 => ?_⟩
        refine ⟨by show 2 ≤ sizeLine; decide, fun u2 nu2 => ?_⟩
        have g2 := fresh nu2 (o := .tup [.ref k3, .ref k4])
        refine ⟨by show 2 ≤ sizeLine; decide, fun ul nul => ?_⟩
        have g3 := fresh nul (o := .lst [.ref u1, .ref u2])
        have sF : Same H8 _ := ((((((t1.trans t2).trans g1.1).trans t3).trans t4).trans g2.1).trans g3.1)
        have two : ∀ x ∈ [V.ref u1, V.ref u2], ∃ (u ka kb : Addr) (T U : Tab), x = .ref u ∧ SqT K (upd (upd K4 u2 (.tup [.ref k3, .ref k4])) ul (.lst [.ref u1, .ref u2])) u [.ref ka, .ref kb] ∧ KAt C (upd (upd K4 u2 (.tup [.ref k3, .ref k4])) ul (.lst [.ref u1, .ref u2])) ka T ∧ KAt C (upd (upd K4 u2 (.tup [.ref k3, .ref k4])) ul (.lst [.ref u1, .ref u2])) kb U ∧ T.length ≤ 460 ∧ U.length ≤ 460 ∧ EndOk a true T U := fun x hx => by
          have s3f := (t3.trans t4).trans (g2.1.trans g3.1)
          rcases List.mem_cons.mp hx with e | hx
          · exact ⟨u1, k1, k2, _, _, e, SqT.of (s3f _ _ g1.2), ((hk1.same t2).same g1.1).same s3f, (hk2.same g1.1).same s3f, lCH, by omega, hEnd⟩
          · have e : x = .ref u2 := by simpa using hx
            exact ⟨u2, k3, k4, _, _, e, SqT.of (g3.1 _ _ g2.2), ((hk3.same t4).same g2.1).same g3.1, (hk4.same g2.1).same g3.1, by omega, lCH, hEnd.swap⟩
        have pxF : PX p H _ := px8.same sF
        have hulF := g3.2
        generalize upd (upd K4 u2 (.tup [.ref k3, .ref k4])) ul (.lst [.ref u1, .ref u2]) = HF at two pxF hulF ⊢
        refine ⟨ul, rfl, ⟨_, SqL.of hulF⟩, for_list (K := K) (a := ul) (xs := [.ref u1, .ref u2]) (fun i σ H' => ∃ (v8 v9 v10 : Option V), σ = [some (.ref p), some (lV a), some (lV b), some (lV c), some (.int (M + 1 : Nat)), some (.ref rl), some (.ref ch), some (.int ((1 : Nat) : Int)), v8, v9, v10, none] ∧ Same HF H') ⟨none, none, none, rfl, Same.refl HF⟩ (fun i σ H' _ ⟨_, _, _, _, q⟩ => SqL.of (q _ _ hulF)) ?_ ?_⟩
        · rintro i x σ H9 hx ⟨v8, v9, v10, rfl, s9⟩
          obtain ⟨u, ka, kb, T, U, rfl, hu, hka, hkb, lT, lU, hE⟩ := two x (List.mem_of_getElem? hx)
          refine ⟨u, _, rfl, sqT_same s9 hu, rfl, _, _, rfl, _, _, rfl, rfl, ?_⟩
          refine ⟨_, rfl, _, rfl, ka, kb, T, U, rfl, hka.same s9, hkb.same s9, by omega, by omega, fun Pp hn hm => Nat.le_trans (hE.few Pp hn hm).1 (by decide), fun v r H10 s10 hv hr => ?_⟩
          -- none must come
          obtain rfl : r = none := by
            cases r with
            | none => rfl
            | some W => exact absurd (hE.both.mp hr.1) (by decide)
          have hnon : decide (v = .non) = true := hv.non
          have e1 : decide (V.int ((1 : Nat) : Int) = V.int 1) = true := rfl
          have e0 : decide (V.int ((1 : Nat) : Int) = V.int 0) = false := rfl
          refine ⟨_, rfl, rfl, _, rfl, ?_⟩
          rw [e1]
          refine iteT ⟨_, rfl, rfl, _, rfl, ?_⟩
          rw [hnon]
          refine iteF ⟨_, rfl, rfl, _, rfl, ?_⟩
          rw [e0]
          refine iteF (iteF ⟨_, rfl, rfl, _, rfl, ?_⟩)
          rw [hnon]
          exact iteF (iteF ⟨some (.ref ka), some (.ref kb), _, rfl, s9.trans s10⟩)
        · rintro σ H9 ⟨v8, v9, v10, rfl, s9⟩
          exact k H9 (pxF.same s9)
end
end KW
/-! KwD21: law. -/
namespace KW
open PySem PySem.Spec PyProof.Rows L2
abbrev sLaw : Stmt := top 49
def spLaw (K : PySem.W.Frag) : Sp := fun vs H Q _ => ∃ (a : Addr) (ns : List Int), vs = [.ref a] ∧ SqL K H a (ns.map V.int) ∧ ns.length ≤ 63 ∧ ∀ H', Q (.bl true) H'
theorem scLaw : FnScope ["_law_script", "_law_k", "_law_pot_here", "_law_is_ended", "_law_letters_here", "_law_kinds", "_law_turn"] ["_law_script"] (defScope sLaw) := ⟨rfl, rfl, rfl, by decide +kernel, rfl, by decide +kernel, by decide +kernel⟩
section
variable {P : Program} {w : World} {K : PySem.W.Frag} {mg : Str → Option Value} {base : Heap} {C CT CN CL CB CW : Addr}
theorem ok_law {f : Addr} {fd : FuncData} (Fn : Fun K "law" "law" sLaw f fd) (TT : TX K mg) (TC : TK K mg C) (DI : DefI P w K mg base 5 C ["self", "table"] (spInit C)) (Dp : Def P w K mg base CX0 1 "_law_pot" ["_law_script", "_law_k"] (spPot K))
    (Dt : Def P w K mg base CX0 1 "_law_take" ["_law_pot_here", "_law_many"] spTake) (Dl : Def P w K mg base CX0 2 "_law_letters" ["_law_pot_here", "_law_many"] spLetters) (Dtab : Def P w K mg base CX0 2 "_law_table" ["_law_pot_here", "_law_letters_here", "_law_most"] spLawTable)
    (Dtog : Def P w K mg base CX0 10 "_law_together" ["_law_kinds"] (spTog C)) (Dr : Def P w K mg base CX0 11 "_law_rings_right" ["_law_pot_here"] spCheck) (Du : Def P w K mg base CX0 11 "_law_unlike_right" ["_law_pot_here"] spCheck)
    (De : Def P w K mg base CX0 10 "_law_ended_right" ["_law_pot_here"] spCheck) : FnOk P w K mg base CX0 12 f fd ["_law_script"] (spLaw K) := by
  refine Fn.ok scLaw (fun vs H Q E h => ?_) (fun cdv A outer s H vs Q E hr h => ?_)
  · obtain ⟨a, ns, rfl, _⟩ := h
    rfl
  · obtain ⟨a, ns, rfl, hS, hlen, k⟩ := h
    refine ⟨_, pss_cons (ps_for PassesOwn.never rfl (pi_range1 (by rfl) TT.range (pa_cons (pe_callB (call_max2 rfl) (by rfl) TT.max (by decide +kernel) (pa_cons pe_int (pa_cons (pe_callB (call_min2 rfl) (by rfl) TT.min (by decide +kernel) (pa_cons pe_int (pa_cons (pe_callB call_len_seq (by rfl) TT.len PySem.boot_len (pa_cons (pv 0) pa_nil)) pa_nil))) pa_nil))) pa_nil)) (pg_name (i := 1) scLaw.nd rfl (Or.inl rfl))
        (pss_cons (ps_set (i := 2) scLaw.nd rfl (Or.inr rfl) (pe_callD Dp hr pass0 (pa_cons (pv 0) (pa_cons (pv 1) pa_nil))))
        (pss_cons (ps_set (i := 3) scLaw.nd rfl (Or.inl rfl) (pe_cmpR op_eq (pe_callD Dt hr pass0 (pa_cons (pv 2) (pa_cons pe_int pa_nil))) pe_int (nomark _)))
        (pss_cons (ps_set (i := 4) scLaw.nd rfl (Or.inr rfl) (pe_callD Dl hr pass0 (pa_cons (pv 2) (pa_cons (pe_op op_add pe_int (pe_callD Dt hr pass0 (pa_cons (pv 2) (pa_cons pe_int pa_nil)))) pa_nil))))
        (pss_cons (ps_setLc (i := 5) (own := [("_law_turn", 6)]) (g := gName 6) (tt := tYes) rfl scLaw.nd rfl rfl (sw_true rfl rfl rfl (by decide +kernel)) (pi_range1 (by rfl) TT.range (pa_cons pe_int pa_nil))
          (blkOk_by (N := ["_law_script", "_law_k", "_law_pot_here", "_law_is_ended", "_law_letters_here", "_law_kinds", "_law_turn"]) (sc := defScope sLaw) (by decide +kernel)) (fun _ _ _ _ _ => pg_name (i := 6) scLaw.nd rfl (Or.inl rfl)) (fun _ _ _ _ _ => pts_nil)
          (fun _ _ _ _ _ => pe_makeD DI hr TC.mgC (pa_cons (pe_callD Dtab hr pass0 (pa_cons (pv 2) (pa_cons (pv 4) (pa_cons pe_int pa_nil)))) pa_nil) pass0))
        (pss_cons (ps_if (PW.pt (pw_or (pt_not (pt_val (pe_callD Dtog hr pass0 (pa_cons (pv 5) pa_nil)))) (pw_or (pt_not (pt_val (pe_callD Dr hr pass0 (pa_cons (pv 2) pa_nil)))) (pw_or1 (PW.pt (pw_and (pt_cmpR op_lt (pv 1) pe_int (nomark _)) (pw_and1 (pt_not (pt_val (pe_callD Du hr pass0 (pa_cons (pv 2) pa_nil)))))))))))
          (pss_one (ps_ret pe_bl)) pss_nil)
        (pss_one (ps_if (PW.pt (pw_and (pt_val (pv 3)) (pw_and1 (pt_not (pt_val (pe_callD De hr pass0 (pa_cons (pv 2) pa_nil))))))) (pss_one (ps_ret pe_bl)) pss_nil))))))))
      (pss_one (ps_ret pe_bl)), ?_⟩
    refine ⟨_, rfl, a, _, rfl, .inl hS, _, _, rfl, _, _, rfl, ?_⟩
    have hb : ∀ m : Nat, -(2 ^ 62) ≤ (if (if (m : Int) < 6 then (m : Int) else 6) > 2 then (if (m : Int) < 6 then (m : Int) else 6) else 2) ∧ (if (if (m : Int) < 6 then (m : Int) else 6) > 2 then (if (m : Int) < 6 then (m : Int) else 6) else 2) < 2 ^ 62 := fun m => by
      split <;> split <;> omega
    obtain ⟨jj, hjj⟩ : ∃ jj : Int, jj = (if (if (((ns.map V.int).length : Nat) : Int) < 6 then (((ns.map V.int).length : Nat) : Int) else 6) > 2 then (if (((ns.map V.int).length : Nat) : Int) < 6 then (((ns.map V.int).length : Nat) : Int) else 6) else 2) := ⟨_, rfl⟩
    have hb1 := hb (ns.map V.int).length
    rw [← hjj] at hb1
    refine ⟨jj, by rw [hjj], hb1.1, hb1.2, ?_⟩
    refine for_range (lo := 0) (n := jj.toNat) (fun i σ H' => ∃ (v1 v2 v3 v4 v5 : Option V), σ = [some (.ref a), v1, v2, v3, v4, v5, none] ∧ Same H H') ⟨none, none, none, none, none, rfl, Same.refl H⟩ ?_ ?_
    · rintro i σ H1 hi ⟨v1, v2, v3, v4, v5, rfl, s1⟩
      have e0 : (0 : Int) + (i : Int) = ((i : Nat) : Int) := by omega
      show gName 1 (.int ((0 : Int) + (i : Int))) _ _ _
      rw [e0]
      refine ⟨_, rfl, _, rfl, a, ns, i, rfl, s1.seq hS, by omega, fun p H2 s2 np hp => ?_⟩
      refine ⟨_, rfl, p, _, rfl, hp, ⟨by decide, by decide⟩, fun d1 H3 hd1 px3 => ⟨rfl, ?_⟩⟩
      refine ⟨_, rfl, _, rfl, p, _, rfl, px3.2, ⟨by decide, by decide⟩, fun d2 H4 hd2 px4 => ⟨_, _, rfl, rfl, ?_⟩⟩
      obtain ⟨n, hn⟩ : ∃ n : Nat, (1 : Int) + (d2 : Int) = (n : Int) := ⟨1 + d2, by omega⟩
      have hn1 : 1 ≤ n ∧ n ≤ 3 := by omega
      have px34 := px3.trans px4
      refine ⟨p, n, by show [V.ref p, V.int ((1 : Int) + (d2 : Int))] = _; rw [hn], px4.2, by omega, fun l cs H5 hcl hcs nl hl px5 => ?_⟩
      have px35 := px34.trans px5
      -- three kinds
      refine ⟨3, rfl, by decide, by decide, fun D hD => ?_⟩
      have nD2 : H2 D = none := px35.free hD
      have hcne : cs ≠ [] := fun z => by rw [z] at hcl; simp at hcl; omega
      refine lc_range (lo := 0) (n := 3) (fun j H' => PX p H5 H' ∧ ∃ (ks : List Addr) (Ts : List Tab), H' D = some (.lst (ks.map V.ref)) ∧ Paired (fun k T => KAt C H' k T ∧ T.length ≤ 5) ks Ts ∧ Ts.length = j) ⟨(PX.refl px5.2).same (same_upd hD), [], [], upd_same, .nil, rfl⟩ ?_ ?_
      · rintro j H6 hj ⟨px6, ks, Ts, hDl, hks, hTs⟩
        refine ⟨rfl, _, rfl, _, rfl, p, l, cs, 5, rfl, px6.2, px6.at_ px5.2 hl (fun _ _ => lV_not), hcs, hcne, by decide, by decide, fun ta T H7 hT wT lT px7 => ?_⟩
        refine fun x dx hx hdx ne => kind_make (C := C) hT wT (by omega) hx hdx ne fun H8 s8 hk => ?_
        have px78 := px7.same s8
        have hDl8 := px78.at_ px6.2 hDl fun _ _ => refs_not
        have hks8 : Paired (fun k T => KAt C H8 k T ∧ T.length ≤ 5) ks Ts := paired_mono (fun k T q => ⟨q.1.px px78 px6.2, q.2⟩) hks
        have hins : ∀ x ∈ ks, ∃ C' dx fs, H8 x = some (.ins C' dx fs) := fun x hx => by
          obtain ⟨i0, hi0⟩ := List.getElem?_of_mem hx
          obtain ⟨z0, _, q0, _⟩ := paired_get hks8 hi0
          obtain ⟨⟨dx, la, g1, _⟩, _⟩ := q0
          exact ⟨_, _, _, g1⟩
        have hkl : ks.length = j := by rw [Paired.length hks, hTs]
        refine ⟨_, hDl8, by rw [List.length_map, hkl]; exact Nat.lt_trans hj (by decide), (px6.trans px78).put hD px5.2, ks ++ [x], Ts ++ [T], by rw [upd_same, List.map_append]; rfl, ?_, by rw [List.length_append, hTs]; rfl⟩
        exact paired_snoc (R := fun k T => KAt C _ k T ∧ T.length ≤ 5) ⟨hk.put hDl8 hins, lT⟩ (paired_mono (fun k T q => ⟨q.1.put hDl8 hins, q.2⟩) hks8)
      · rintro H6 ⟨px6, ks, Ts, hDl, hks, hTs⟩
        obtain ⟨ka, kb, kc, TA, TB, TD, rfl, hA, hB, hC⟩ : ∃ ka kb kc TA TB TD, ks = [ka, kb, kc] ∧ (KAt C H6 ka TA ∧ TA.length ≤ 5) ∧ (KAt C H6 kb TB ∧ TB.length ≤ 5) ∧ (KAt C H6 kc TD ∧ TD.length ≤ 5) := by
          cases hks with
          | nil => cases hTs
          | cons q1 hks =>
            cases hks with
            | nil => cases hTs
            | cons q2 hks =>
              cases hks with
              | nil => cases hTs
              | cons q3 hks =>
                cases hks with
                | nil => exact ⟨_, _, _, _, _, _, rfl, q1, q2, q3⟩
                | cons q4 hks =>
                  simp at hTs
        refine ⟨_, rfl, D, ka, kb, kc, TA, TB, TD, rfl, hDl, hA.1, hB.1, hC.1, hA.2, hB.2, hC.2, fun H7 s7 => ⟨true, rfl, iteF ?_⟩⟩
        have px7 := (px35.trans px6).same s7
        refine ⟨_, rfl, p, rfl, px7.2, fun H8 px8 => ⟨true, rfl, iteF ?_⟩⟩
        have px78 := px7.trans px8
        have done : ∀ H9, PX p H2 H9 → Same H H9 := fun H9 q b o e => by
          have h1 := s1 b o e
          exact q.1 b o (ne_of_none h1 np) (s2 b o h1)
        refine ⟨_, rfl, _, _, rfl, rfl, _, rfl, ?_⟩
        refine ite2 (fun _ => ⟨_, rfl, p, rfl, px78.2, fun H9 px9 => ⟨true, rfl, iteF ?_⟩⟩) (fun _ => iteF ?_)
        · have px89 := px78.trans px9
          refine ⟨_, rfl, _, rfl, ite2 (fun _ => ⟨_, rfl, p, rfl, px89.2, fun HE pxe => ⟨true, rfl, iteF ⟨_, _, _, _, _, rfl, done HE (px89.trans pxe)⟩⟩⟩) (fun _ => iteF ⟨_, _, _, _, _, rfl, done _ px89⟩)⟩
        · refine ⟨_, rfl, _, rfl, ite2 (fun _ => ⟨_, rfl, p, rfl, px78.2, fun HE pxe => ⟨true, rfl, iteF ⟨_, _, _, _, _, rfl, done HE (px78.trans pxe)⟩⟩⟩) (fun _ => iteF ⟨_, _, _, _, _, rfl, done _ px78⟩)⟩
    · rintro σ H1 _
      exact k H1
end
end KW
/-! KwEnd: what the program's top has left, put together. -/
namespace KW
open PySem PySem.Spec PyProof.Rows L2
/-- the def x of the module, as it stands -/
def Stands (K : PySem.W.Frag) (x : Str) (st : Stmt) : Prop := ∃ f fd, Fun K x x st f fd ∧ PySem.W.nsIn K mainGlobals x = some (some (.ref f))
theorem stands {K : PySem.W.Frag} {x : Str} {st : Stmt} {f : Addr} {oc : Value} {od an : Option Addr} {osl : Array (Option Value)} {kV doc pm cdv ct : Value} (a : PySem.W.nsIn K mainGlobals x = some (some (.ref f)))
    (l : K.lookup f = some ⟨oc, od, .func (PySem.W.fnOf x x (defArgs st) (defBody st) (defScope st) .none kV doc pm an cdv ct), osl⟩) (c : PySem.W.codeIn K cdv x = true) (k : PySem.W.keepIn K (.ref f) = true) : Stands K x st := ⟨f, _, fun_mk l c k, a⟩
/-- the method m of the class at C -/
def StandsM (K : PySem.W.Frag) (C : Addr) (m qual : Str) (st : Stmt) : Prop := ∃ f fd, Fun K m qual st f fd ∧ PySem.W.findIn K (.ref C) m = some (some (.ref f)) ∧ PySem.W.isFn K (.ref f) = true
theorem standsM {K : PySem.W.Frag} {C : Addr} {m qual : Str} {st : Stmt} {f : Addr} {oc : Value} {od an : Option Addr} {osl : Array (Option Value)} {kV doc pm cdv ct : Value} (a : PySem.W.findIn K (.ref C) m = some (some (.ref f))) (i : PySem.W.isFn K (.ref f) = true)
    (l : K.lookup f = some ⟨oc, od, .func (PySem.W.fnOf m qual (defArgs st) (defBody st) (defScope st) .none kV doc pm an cdv ct), osl⟩) (c : PySem.W.codeIn K cdv qual = true) (k : PySem.W.keepIn K (.ref f) = true) : StandsM K C m qual st := ⟨f, _, fun_mk l c k, a, i⟩
theorem Stands.here {K : PySem.W.Frag} {h : Heap} {mg : Str → Option Value} (X : K.In h) (G : h.Ns mainGlobals mg) {x : Str} {st : Stmt} {ps : List Str} (s : Stands K x st) (b : ∀ f fd, Fun K x x st f fd → Binds K fd ps []) : Here K mg x st ps := by
  obtain ⟨f, fd, F, a⟩ := s
  exact ⟨f, fd, F, PySem.W.mg_of X G a, b f fd F⟩
/-- is_whole, with its default -/
def StandsW (K : PySem.W.Frag) : Prop := ∃ f fd, FunD K "is_whole" "is_whole" (defArgs sWhole) (defBody sWhole) (defScope sWhole) [V.int 0] [] f fd ∧ PySem.W.nsIn K mainGlobals "is_whole" = some (some (.ref f))
theorem standsW {K : PySem.W.Frag} {f T : Addr} {oc tc : Value} {od an td : Option Addr} {osl tsl : Array (Option Value)} {kV doc pm cdv ct : Value} {tk : Tok} {its : Array Value} {n : Nat} (a : PySem.W.nsIn K mainGlobals "is_whole" = some (some (.ref f)))
    (l : K.lookup f = some ⟨oc, od, .func (PySem.W.fnOf "is_whole" "is_whole" (defArgs sWhole) (defBody sWhole) (defScope sWhole) (.ref T) kV doc pm an cdv ct), osl⟩) (lT : K.lookup T = some ⟨tc, td, .seq its n, tsl⟩) (hi : its = #[.int 0 tk]) (c : PySem.W.codeIn K cdv "is_whole" = true) (k : PySem.W.keepIn K (.ref f) = true) : StandsW K := by
  subst hi
  exact ⟨f, _, ⟨⟨oc, od, .ref T, kV, doc, pm, an, cdv, ct, osl, rfl, l, c, .inr ⟨by simp, T, _, [.int 0 tk], n, rfl, lT, rfl, .cons ⟨tk, rfl⟩ .nil⟩, .inl rfl⟩, k⟩, a⟩
/-- the class Kind -/
structure KindF (K : PySem.W.Frag) (C : Addr) : Prop where
  a : PySem.W.nsIn K mainGlobals "Kind" = some (some (.ref C))
  cls : Cls K C
  nR : NoAttr K C "rows"
  mkc : PySem.W.makesIn K C = true
  kc : PySem.W.keepIn K (.ref C) = true
  ha : PySem.W.findIn K (.ref C) "__class__" = some (some (.builtin "object.__class__"))
  hn : PySem.W.specialIn K (.builtin "object.__class__") "__get__" = some (some (.builtin "getset_descriptor.__get__"))
  ht : PySem.W.takesIn K (.builtin "object.__class__") = some true
  hm : PySem.W.mroIn K C (.type "object") = some true
  mI : StandsM K C "__init__" "Kind.__init__" sInit
  mT : StandsM K C "table" "Kind.table" sTab
  mE : StandsM K C "__eq__" "Kind.__eq__" sEq
  mL : StandsM K C "__len__" "Kind.__len__" sLen
theorem kindF {K : PySem.W.Frag} {C : Addr} (a : PySem.W.nsIn K mainGlobals "Kind" = some (some (.ref C))) (pg : PySem.W.plainGet K C Str.empty = true) (hd : PySem.W.hasDictIn K C = true) (po : PySem.W.plainOver K C = true) (sa : PySem.W.findIn K (.ref C) "__setattr__" = some (some (.builtin "object.__setattr__")))
    (nR : PySem.W.findIn K (.ref C) "rows" = some none) (mk : PySem.W.makesIn K C = true) (kc : PySem.W.keepIn K (.ref C) = true) (ha : PySem.W.findIn K (.ref C) "__class__" = some (some (.builtin "object.__class__"))) (hn : PySem.W.specialIn K (.builtin "object.__class__") "__get__" = some (some (.builtin "getset_descriptor.__get__")))
    (ht : PySem.W.takesIn K (.builtin "object.__class__") = some true) (hm : PySem.W.mroIn K C (.type "object") = some true) (mI : StandsM K C "__init__" "Kind.__init__" sInit) (mT : StandsM K C "table" "Kind.table" sTab) (mE : StandsM K C "__eq__" "Kind.__eq__" sEq) (mL : StandsM K C "__len__" "Kind.__len__" sLen) : ∃ C, KindF K C :=
  ⟨C, a, ⟨pg, hd, po, sa⟩, nR, mk, kc, ha, hn, ht, hm, mI, mT, mE, mL⟩
/-- the exception classes -/
structure ExcF (K : PySem.W.Frag) (CL CB CW CN CT : Addr) : Prop where
  aL : PySem.W.nsIn K mainGlobals "LightsError" = some (some (.ref CL))
  aB : PySem.W.nsIn K mainGlobals "Barred" = some (some (.ref CB))
  aW : PySem.W.nsIn K mainGlobals "Wrong" = some (some (.ref CW))
  aN : PySem.W.nsIn K mainGlobals "NoWeather" = some (some (.ref CN))
  aT : PySem.W.nsIn K mainGlobals "TooMany" = some (some (.ref CT))
  xN : PySem.W.excIn K CN [.type "ValueError", .type "Exception", .type "BaseException", .type "object"] "ValueError.__new__" = true
  xT : PySem.W.excIn K CT [.type "ValueError", .type "Exception", .type "BaseException", .type "object"] "ValueError.__new__" = true
  kN : PySem.W.keepIn K (.ref CN) = true
  kT : PySem.W.keepIn K (.ref CT) = true
  bL : PySem.W.subIn K (.ref CL) (.type "BaseException") = some true
  bN : PySem.W.subIn K (.ref CN) (.type "BaseException") = some true
  bT : PySem.W.subIn K (.ref CT) (.type "BaseException") = some true
  tL : PySem.W.typeIn K (.ref CL) = some (.type "type")
  tB : PySem.W.typeIn K (.ref CB) = some (.type "type")
  tW : PySem.W.typeIn K (.ref CW) = some (.type "type")
  tN : PySem.W.typeIn K (.ref CN) = some (.type "type")
  tT : PySem.W.typeIn K (.ref CT) = some (.type "type")
  dL : PySem.W.hasDictIn K CL = true
  dN : PySem.W.hasDictIn K CN = true
  dT : PySem.W.hasDictIn K CT = true
  iB : PySem.W.isClsIn K CB = true
  iW : PySem.W.isClsIn K CW = true
  iN : PySem.W.isClsIn K CN = true
  sNN : PySem.W.subIn K (.ref CN) (.ref CN) = some true
  sTL : PySem.W.subIn K (.ref CT) (.ref CL) = some true
  sTT : PySem.W.subIn K (.ref CT) (.ref CT) = some true
  sTB : PySem.W.subIn K (.ref CT) (.ref CB) = some true
  sTW : PySem.W.subIn K (.ref CT) (.ref CW) = some false
  sTN : PySem.W.subIn K (.ref CT) (.ref CN) = some false
  hg : PySem.W.findIn K (.ref CT) "__getattribute__" = some (some (.builtin "BaseException.__getattribute__"))
  hk : PySem.W.findIn K (.ref CT) "__getattr__" = some none
  ha : PySem.W.findIn K (.ref CT) "__class__" = some (some (.builtin "object.__class__"))
  hn : PySem.W.specialIn K (.builtin "object.__class__") "__get__" = some (some (.builtin "getset_descriptor.__get__"))
  ht : PySem.W.takesIn K (.builtin "object.__class__") = some true
  hm : PySem.W.mroIn K CT (.type "object") = some true
theorem kit_ref {K : PySem.W.Frag} {T C : Addr} {b : Bool} (i : PySem.W.isClsIn K C = true) (t : PySem.W.typeIn K (.ref C) = some (.type "type")) (s : PySem.W.subIn K (.ref T) (.ref C) = some b) (sT : PySem.W.subIn K (.ref T) (.ref T) = some true) : PySem.W.kitOne K (.ref T) (.ref C) = some b := by
  by_cases e : T = C
  · subst e
    rw [sT] at s
    rw [← s]
    exact kit_self _ (by simp)
  · have h1 : ((Value.ref T : Value) == .ref C) = false := by
      rw [Bool.eq_false_iff]
      intro q
      exact e (Value.ref.inj (beq_iff_eq.mp q))
    have h2 : ((PySem.W.clsIn K C).isSome && PySem.W.typeIn K (.ref C) == some (.type "type")) = true := by
      have h2' : (PySem.W.clsIn K C).isSome = true := i
      rw [h2', t]
      rfl
    show (if ((Value.ref T : Value) == .ref C) = true then some true else (if ((PySem.W.clsIn K C).isSome && PySem.W.typeIn K (.ref C) == some (.type "type")) = true then PySem.W.subIn K (.ref T) (.ref C) else none)) = some b
    rw [h1, if_neg Bool.false_ne_true, if_pos h2]
    exact s
section
variable {K : PySem.W.Frag} {mg : Str → Option Value} {h : Heap} {CL CB CW CN CT C : Addr}
theorem ExcF.n (E : ExcF K CL CB CW CN CT) (X : K.In h) (G : h.Ns mainGlobals mg) : TE1 K mg "NoWeather" CN := ⟨PySem.W.mg_of X G E.aN, E.xN, E.kN, E.bN, E.tN⟩
theorem ExcF.t (E : ExcF K CL CB CW CN CT) (X : K.In h) (G : h.Ns mainGlobals mg) : TE1 K mg "TooMany" CT := ⟨PySem.W.mg_of X G E.aT, E.xT, E.kT, E.bT, E.tT⟩
theorem ExcF.ex (E : ExcF K CL CB CW CN CT) (X : K.In h) (G : h.Ns mainGlobals mg) : TEx K mg CL CB CW CN CT :=
  { gL := PySem.W.mg_of X G E.aL, gB := PySem.W.mg_of X G E.aB, gW := PySem.W.mg_of X G E.aW, gN := PySem.W.mg_of X G E.aN, gT := PySem.W.mg_of X G E.aT, eTL := PySem.W.exm_ref E.bL E.dL E.tL E.sTL,
    exC := ⟨E.hg, E.hk, E.bT, E.dT, E.ha, E.hn, E.ht, E.hm⟩, kTT := kit_self _ (by simp), kTB := kit_ref E.iB E.tB E.sTB E.sTT, kTW := kit_ref E.iW E.tW E.sTW E.sTT, kTN := kit_ref E.iN E.tN E.sTN E.sTT }
theorem KindF.tk (F : KindF K C) (X : K.In h) (G : h.Ns mainGlobals mg) : TK K mg C := ⟨F.cls, F.nR, PySem.W.mg_of X G F.a, fun H a dx fs e => .base (.ins e F.cls F.ha F.hn F.ht F.hm)⟩
/-- the first pair -/
theorem first_at {tp : Addr} {dd : Option Addr} {sl : Array (Option Value)} {its : Array Value} {n : Nat} {t0 t1 : Tok} (l : K.lookup tp = some ⟨.type "tuple", dd, .seq its n, sl⟩) (hi : its = #[.int 0 t0, .int 0 t1]) (H : Hp) : SqT K H tp [.int 0, .int 0] := by
  subst hi
  exact .inr ⟨_, _, n, l, rfl, rfl, by show 2 ≤ sizeLine; decide, .cons ⟨t0, rfl⟩ (.cons ⟨t1, rfl⟩ .nil)⟩
theorem tx_of {t0 t1 t2 : Tok} {tp : Addr} {dd : Option Addr} {sl : Array (Option Value)} {its : Array Value} {n : Nat} {u0 u1 : Tok} (X : K.In h) (G : h.Ns mainGlobals mg)
    (z_isi : PySem.W.nsIn K mainGlobals "isinstance" = some none)
    (z_int : PySem.W.nsIn K mainGlobals "int" = some none)
    (z_bool : PySem.W.nsIn K mainGlobals "bool" = some none)
    (z_list : PySem.W.nsIn K mainGlobals "list" = some none)
    (z_tuple : PySem.W.nsIn K mainGlobals "tuple" = some none)
    (z_str : PySem.W.nsIn K mainGlobals "str" = some none)
    (z_dict : PySem.W.nsIn K mainGlobals "dict" = some none)
    (z_len : PySem.W.nsIn K mainGlobals "len" = some none)
    (z_all : PySem.W.nsIn K mainGlobals "all" = some none)
    (z_sorted : PySem.W.nsIn K mainGlobals "sorted" = some none)
    (z_rev : PySem.W.nsIn K mainGlobals "reversed" = some none)
    (z_enum : PySem.W.nsIn K mainGlobals "enumerate" = some none)
    (z_range : PySem.W.nsIn K mainGlobals "range" = some none)
    (z_max : PySem.W.nsIn K mainGlobals "max" = some none)
    (z_min : PySem.W.nsIn K mainGlobals "min" = some none)
    (z_zip : PySem.W.nsIn K mainGlobals "zip" = some none)
    (zL : PySem.W.nsIn K mainGlobals "LETTERS" = some (some (.str abc t0))) (zR : PySem.W.nsIn K mainGlobals "MOST_ROWS" = some (some (.int 1000 t1))) (zM : PySem.W.nsIn K mainGlobals "MOST_MADE" = some (some (.int 400 t2))) (zF : PySem.W.nsIn K mainGlobals "FIRST_PAIR" = some (some (.ref tp)))
    (lF : K.lookup tp = some ⟨.type "tuple", dd, .seq its n, sl⟩) (hF : its = #[.int 0 u0, .int 0 u1]) : TX K mg :=
  { isi := PySem.W.mg_none_of X G z_isi, int := PySem.W.mg_none_of X G z_int, bool := PySem.W.mg_none_of X G z_bool, list := PySem.W.mg_none_of X G z_list, tuple := PySem.W.mg_none_of X G z_tuple, str := PySem.W.mg_none_of X G z_str, dict := PySem.W.mg_none_of X G z_dict, len := PySem.W.mg_none_of X G z_len, all := PySem.W.mg_none_of X G z_all, sorted := PySem.W.mg_none_of X G z_sorted, rev := PySem.W.mg_none_of X G z_rev, enum := PySem.W.mg_none_of X G z_enum, range := PySem.W.mg_none_of X G z_range, max := PySem.W.mg_none_of X G z_max, min := PySem.W.mg_none_of X G z_min, zip := PySem.W.mg_none_of X G z_zip, letters := ⟨t0, PySem.W.mg_of X G zL⟩, rows := ⟨t1, PySem.W.mg_of X G zR⟩, made := ⟨t2, PySem.W.mg_of X G zM⟩, first := ⟨tp, PySem.W.mg_of X G zF, fun H => first_at lF hF H⟩ }
theorem all_ok {P : Program} {w : World} {fa : Addr} (X : K.In h) (G : h.Ns mainGlobals mg) (hfa : mg "law" = some (.ref fa)) (TT : TX K mg) (hK : ∃ C, KindF K C) (hE : ∃ CL CB CW CN CT, ExcF K CL CB CW CN CT) (hW : StandsW K)
    (h_sList : Stands K "is_list" sList)
    (h_sWithin : Stands K "is_within" sWithin)
    (h_sLetter : Stands K "is_letter" sLetter)
    (h_sRow : Stands K "is_row" sRow)
    (h_sTable : Stands K "is_table" sTable)
    (h_sWeather : Stands K "weather_to" sWeather)
    (h_sFirst : Stands K "first_beyond" sFirst)
    (h_sBeyond : Stands K "beyond" sBeyond)
    (h_sBoth : Stands K "steps_of_both" sBoth)
    (h_sRowAt : Stands K "row_at" sRowAt)
    (h_sEither : Stands K "steps_of_either" sEither)
    (h_sPairs : Stands K "pairs_come_to" sPairs)
    (h_sWays : Stands K "ways_on" sWays)
    (h_sKofP : Stands K "kind_of_pairs" sKofP)
    (h_sBothK : Stands K "both_kinds" sBothK)
    (h_sEitherK : Stands K "either_kind" sEitherK)
    (h_sPot : Stands K "_law_pot" sPot)
    (h_sTake : Stands K "_law_take" sTake)
    (h_sLetters : Stands K "_law_letters" sLetters)
    (h_sLawTable : Stands K "_law_table" sLawTable)
    (h_sLBoth : Stands K "_law_both" sLBoth)
    (h_sLEither : Stands K "_law_either" sLEither)
    (h_sLAlike : Stands K "_law_alike" sLAlike)
    (h_sTog : Stands K "_law_together" sTog)
    (h_sRing : Stands K "_law_ring" sRing)
    (h_sPut : Stands K "_law_put_together" sPut)
    (h_sMade : Stands K "_law_made" sMade)
    (h_sRings : Stands K "_law_rings_right" sRings)
    (h_sUnlike : Stands K "_law_unlike_right" sUnlike)
    (h_sEnded : Stands K "_law_ended_right" sEnded)
    (h_sLaw : Stands K "law" sLaw)
    : ∃ fd : FuncData, (∀ (s : Shared) (v : Value), BindsTo s fd ⟨[v], []⟩ [("_law_script", v)]) ∧ ∀ base : Heap, K.In base → base.Ns mainGlobals mg → FnOk P w K mg base CX0 12 fa fd ["_law_script"] (spLaw K) := by
  obtain ⟨C, KF⟩ := hK
  obtain ⟨CL, CB, CW, CN, CT, EF⟩ := hE
  have TC := KF.tk X G
  have TN := EF.n X G
  have TM := EF.t X G
  have TE := EF.ex X G
  have eN := PySem.W.exm_ref EF.bN EF.dN EF.tN EF.sNN
  have e_sList : Here K mg "is_list" sList ["thing"] := h_sList.here X G fun f fd F => F.binds (ps := ["thing"]) fun _ _ _ _ _ _ us hl => match us, hl with | [_], _ => rfl
  have e_sWithin : Here K mg "is_within" sWithin ["thing", "least", "most"] := h_sWithin.here X G fun f fd F => F.binds (ps := ["thing", "least", "most"]) fun _ _ _ _ _ _ us hl => match us, hl with | [_, _, _], _ => rfl
  have e_sLetter : Here K mg "is_letter" sLetter ["thing"] := h_sLetter.here X G fun f fd F => F.binds (ps := ["thing"]) fun _ _ _ _ _ _ us hl => match us, hl with | [_], _ => rfl
  have e_sRow : Here K mg "is_row" sRow ["thing", "many"] := h_sRow.here X G fun f fd F => F.binds (ps := ["thing", "many"]) fun _ _ _ _ _ _ us hl => match us, hl with | [_, _], _ => rfl
  have e_sTable : Here K mg "is_table" sTable ["thing"] := h_sTable.here X G fun f fd F => F.binds (ps := ["thing"]) fun _ _ _ _ _ _ us hl => match us, hl with | [_], _ => rfl
  have e_sWeather : Here K mg "weather_to" sWeather ["before", "here"] := h_sWeather.here X G fun f fd F => F.binds (ps := ["before", "here"]) fun _ _ _ _ _ _ us hl => match us, hl with | [_, _], _ => rfl
  have e_sFirst : Here K mg "first_beyond" sFirst ["table", "other"] := h_sFirst.here X G fun f fd F => F.binds (ps := ["table", "other"]) fun _ _ _ _ _ _ us hl => match us, hl with | [_, _], _ => rfl
  have e_sBeyond : Here K mg "beyond" sBeyond ["kind", "other"] := h_sBeyond.here X G fun f fd F => F.binds (ps := ["kind", "other"]) fun _ _ _ _ _ _ us hl => match us, hl with | [_, _], _ => rfl
  have e_sBoth : Here K mg "steps_of_both" sBoth ["table", "other", "pair"] := h_sBoth.here X G fun f fd F => F.binds (ps := ["table", "other", "pair"]) fun _ _ _ _ _ _ us hl => match us, hl with | [_, _, _], _ => rfl
  have e_sRowAt : Here K mg "row_at" sRowAt ["table", "number"] := h_sRowAt.here X G fun f fd F => F.binds (ps := ["table", "number"]) fun _ _ _ _ _ _ us hl => match us, hl with | [_, _], _ => rfl
  have e_sEither : Here K mg "steps_of_either" sEither ["table", "other", "pair"] := h_sEither.here X G fun f fd F => F.binds (ps := ["table", "other", "pair"]) fun _ _ _ _ _ _ us hl => match us, hl with | [_, _, _], _ => rfl
  have e_sPairs : Here K mg "pairs_come_to" sPairs ["steps", "table", "other"] := h_sPairs.here X G fun f fd F => F.binds (ps := ["steps", "table", "other"]) fun _ _ _ _ _ _ us hl => match us, hl with | [_, _, _], _ => rfl
  have e_sWays : Here K mg "ways_on" sWays ["found"] := h_sWays.here X G fun f fd F => F.binds (ps := ["found"]) fun _ _ _ _ _ _ us hl => match us, hl with | [_], _ => rfl
  have e_sKofP : Here K mg "kind_of_pairs" sKofP ["found", "pairs"] := h_sKofP.here X G fun f fd F => F.binds (ps := ["found", "pairs"]) fun _ _ _ _ _ _ us hl => match us, hl with | [_, _], _ => rfl
  have e_sBothK : Here K mg "both_kinds" sBothK ["kind", "other"] := h_sBothK.here X G fun f fd F => F.binds (ps := ["kind", "other"]) fun _ _ _ _ _ _ us hl => match us, hl with | [_, _], _ => rfl
  have e_sEitherK : Here K mg "either_kind" sEitherK ["kind", "other"] := h_sEitherK.here X G fun f fd F => F.binds (ps := ["kind", "other"]) fun _ _ _ _ _ _ us hl => match us, hl with | [_, _], _ => rfl
  have e_sPot : Here K mg "_law_pot" sPot ["_law_script", "_law_k"] := h_sPot.here X G fun f fd F => F.binds (ps := ["_law_script", "_law_k"]) fun _ _ _ _ _ _ us hl => match us, hl with | [_, _], _ => rfl
  have e_sTake : Here K mg "_law_take" sTake ["_law_pot_here", "_law_many"] := h_sTake.here X G fun f fd F => F.binds (ps := ["_law_pot_here", "_law_many"]) fun _ _ _ _ _ _ us hl => match us, hl with | [_, _], _ => rfl
  have e_sLetters : Here K mg "_law_letters" sLetters ["_law_pot_here", "_law_many"] := h_sLetters.here X G fun f fd F => F.binds (ps := ["_law_pot_here", "_law_many"]) fun _ _ _ _ _ _ us hl => match us, hl with | [_, _], _ => rfl
  have e_sLawTable : Here K mg "_law_table" sLawTable ["_law_pot_here", "_law_letters_here", "_law_most"] := h_sLawTable.here X G fun f fd F => F.binds (ps := ["_law_pot_here", "_law_letters_here", "_law_most"]) fun _ _ _ _ _ _ us hl => match us, hl with | [_, _, _], _ => rfl
  have e_sLBoth : Here K mg "_law_both" sLBoth ["_law_kind", "_law_other"] := h_sLBoth.here X G fun f fd F => F.binds (ps := ["_law_kind", "_law_other"]) fun _ _ _ _ _ _ us hl => match us, hl with | [_, _], _ => rfl
  have e_sLEither : Here K mg "_law_either" sLEither ["_law_some", "_law_other"] := h_sLEither.here X G fun f fd F => F.binds (ps := ["_law_some", "_law_other"]) fun _ _ _ _ _ _ us hl => match us, hl with | [_, _], _ => rfl
  have e_sLAlike : Here K mg "_law_alike" sLAlike ["_law_some", "_law_other"] := h_sLAlike.here X G fun f fd F => F.binds (ps := ["_law_some", "_law_other"]) fun _ _ _ _ _ _ us hl => match us, hl with | [_, _], _ => rfl
  have e_sTog : Here K mg "_law_together" sTog ["_law_kinds"] := h_sTog.here X G fun f fd F => F.binds (ps := ["_law_kinds"]) fun _ _ _ _ _ _ us hl => match us, hl with | [_], _ => rfl
  have e_sRing : Here K mg "_law_ring" sRing ["_law_letter", "_law_many"] := h_sRing.here X G fun f fd F => F.binds (ps := ["_law_letter", "_law_many"]) fun _ _ _ _ _ _ us hl => match us, hl with | [_, _], _ => rfl
  have e_sPut : Here K mg "_law_put_together" sPut ["_law_way", "_law_kind", "_law_other"] := h_sPut.here X G fun f fd F => F.binds (ps := ["_law_way", "_law_kind", "_law_other"]) fun _ _ _ _ _ _ us hl => match us, hl with | [_, _, _], _ => rfl
  have e_sMade : Here K mg "_law_made" sMade ["_law_way", "_law_kind", "_law_other"] := h_sMade.here X G fun f fd F => F.binds (ps := ["_law_way", "_law_kind", "_law_other"]) fun _ _ _ _ _ _ us hl => match us, hl with | [_, _, _], _ => rfl
  have e_sRings : Here K mg "_law_rings_right" sRings ["_law_pot_here"] := h_sRings.here X G fun f fd F => F.binds (ps := ["_law_pot_here"]) fun _ _ _ _ _ _ us hl => match us, hl with | [_], _ => rfl
  have e_sUnlike : Here K mg "_law_unlike_right" sUnlike ["_law_pot_here"] := h_sUnlike.here X G fun f fd F => F.binds (ps := ["_law_pot_here"]) fun _ _ _ _ _ _ us hl => match us, hl with | [_], _ => rfl
  have e_sEnded : Here K mg "_law_ended_right" sEnded ["_law_pot_here"] := h_sEnded.here X G fun f fd F => F.binds (ps := ["_law_pot_here"]) fun _ _ _ _ _ _ us hl => match us, hl with | [_], _ => rfl
  obtain ⟨fw, fdw, Fw, aw⟩ := hW
  obtain ⟨dsw, rvw, bw⟩ := Fw.binds1 (ps := ["thing", "least"]) 2 1 (by simp) rfl fun T kV doc pm an cdv ct us its hu hi => match us, its, hu, hi with | [_, _], [_], _, _ => ⟨_, rfl, rfl⟩
  obtain rfl : dsw = [] := by cases rvw; rfl
  obtain ⟨fL, fdL, FL, aL⟩ := h_sLaw
  have eL := hfa.symm.trans (PySem.W.mg_of X G aL)
  cases eL
  obtain ⟨fI, fdI, FI, aI, iI⟩ := KF.mI
  obtain ⟨fT, fdT, FT, aT, iT⟩ := KF.mT
  obtain ⟨fE, fdE, FE, aE, iE⟩ := KF.mE
  obtain ⟨fN, fdN, FN, aN, iN⟩ := KF.mL
  have bI := FI.binds (ps := ["self", "table"]) fun _ _ _ _ _ _ us hl => match us, hl with | [_, _], _ => rfl
  have bT := FT.binds (ps := ["self"]) fun _ _ _ _ _ _ us hl => match us, hl with | [_], _ => rfl
  have bE := FE.binds (ps := ["self", "other"]) fun _ _ _ _ _ _ us hl => match us, hl with | [_, _], _ => rfl
  have bN := FN.binds (ps := ["self"]) fun _ _ _ _ _ _ us hl => match us, hl with | [_], _ => rfl
  obtain ⟨oc, od, kV, doc, pm, an, cdv, ct, osl, rfl, lk, hcd⟩ := id FL.ex
  refine ⟨PySem.W.fnOf "law" "law" (defArgs sLaw) (defBody sLaw) (defScope sLaw) .none kV doc pm an cdv ct, fun s v => .of_eq rfl, fun base _ _ => ?_⟩
  have dWhole : Def P w K mg base CX0 1 "is_whole" ["thing", "least"] spWhole := ⟨fw, fdw, ok_whole Fw TT, PySem.W.mg_of X G aw, Fw.kp, bw⟩
  have dList := e_sList.def (base := base) (P := P) (w := w) fun f fd F => ok_list F TT
  have dWithin := e_sWithin.def (base := base) (P := P) (w := w) fun f fd F => ok_within F dWhole
  have dLetter := e_sLetter.def (base := base) (P := P) (w := w) fun f fd F => ok_letter F TT
  have dRow := e_sRow.def (base := base) (P := P) (w := w) fun f fd F => ok_row F TT dLetter dWithin
  have dTable := e_sTable.def (base := base) (P := P) (w := w) fun f fd F => ok_table F TT dList dRow
  have dInit : DefI P w K mg base 5 C ["self", "table"] (spInit C) := ⟨fI, fdI, ok_init FI TT TC dTable, ⟨KF.mkc, aI, iI, KF.kc⟩, bI⟩
  have dTab : DefM P w K mg base CX0 1 C "table" ["self"] (spTab C) := ⟨fT, fdT, ok_tab FT TT TC, ⟨aT, iT, FT.kp⟩, bT⟩
  have dLen : DefL P w K mg base C := ⟨fN, fdN, ok_len FN TT TC, aN, iN, bN⟩
  have dWeather := e_sWeather.def (base := base) (P := P) (w := w) fun f fd F => ok_weather F TT
  have dFirst := e_sFirst.def (base := base) (P := P) (w := w) fun f fd F => ok_first F TT dWeather
  have dEq : DefE P w K mg base C := ⟨fE, fdE, ok_eq FE TT TC dFirst, aE, iE, bE⟩
  have dBeyond := e_sBeyond.def (base := base) (P := P) (w := w) fun f fd F => ok_beyond F TT TC dFirst dTab
  have dBoth := e_sBoth.def (base := base) (P := P) (w := w) fun f fd F => ok_both F TT
  have dRowAt := e_sRowAt.def (base := base) (P := P) (w := w) fun f fd F => ok_rowAt F
  have dEither := e_sEither.def (base := base) (P := P) (w := w) fun f fd F => ok_either F TT dRowAt
  have dPairs := e_sPairs.def (base := base) (P := P) (w := w) fun f fd F => ok_pairs F TT
  have dWays := e_sWays.def (base := base) (P := P) (w := w) fun f fd F => ok_ways F TT
  have dKofP := e_sKofP.def (base := base) (P := P) (w := w) fun f fd F => ok_kofP F TT TC TM dInit
  have dBothK := e_sBothK.def (base := base) (P := P) (w := w) fun f fd F => ok_bothK F TT TC TN dTab dBoth dPairs dWays dKofP
  have dEitherK := e_sEitherK.def (base := base) (P := P) (w := w) fun f fd F => ok_eitherK F TT TC dTab dEither dPairs dKofP
  have dPot := e_sPot.def (base := base) (P := P) (w := w) fun f fd F => ok_pot F TT
  have dTake := e_sTake.def (base := base) (P := P) (w := w) fun f fd F => ok_take F
  have dLetters := e_sLetters.def (base := base) (P := P) (w := w) fun f fd F => ok_letters F TT dTake
  have dLTable := e_sLawTable.def (base := base) (P := P) (w := w) fun f fd F => ok_lawTable F TT dTake
  have dLBoth := e_sLBoth.def (base := base) (P := P) (w := w) fun f fd F => ok_lBoth F TN eN dBothK
  have dLEither := e_sLEither.def (base := base) (P := P) (w := w) fun f fd F => ok_lEither F TT dEitherK
  have dLAlike := e_sLAlike.def (base := base) (P := P) (w := w) fun f fd F => ok_lAlike F dEq
  have dTog := e_sTog.def (base := base) (P := P) (w := w) fun f fd F => ok_tog F dEq dBeyond dBothK dEitherK dLBoth dLEither dLAlike
  have dRing := e_sRing.def (base := base) (P := P) (w := w) fun f fd F => ok_ring F TT TC dInit
  have dPut := e_sPut.def (base := base) (P := P) (w := w) fun f fd F => ok_put F dBothK dEitherK
  have dMade := e_sMade.def (base := base) (P := P) (w := w) fun f fd F => ok_made F TT TE dLen dPut
  have dRings := e_sRings.def (base := base) (P := P) (w := w) fun f fd F => ok_rings F TT dTake dLetters dRing dMade
  have dUnlike := e_sUnlike.def (base := base) (P := P) (w := w) fun f fd F => ok_unlike F TT dTake dLetters dRing dMade
  have dEnded := e_sEnded.def (base := base) (P := P) (w := w) fun f fd F => ok_ended F TT TC dTake dLetters dInit dTab dLBoth
  exact ok_law FL TT TC dInit dPot dTake dLetters dLTable dTog dRings dUnlike dEnded
end
theorem walk {l : PySem.W.OpenLaw} {q : Program} {loose : List Str} {XP : (Str → Option Value) → Heap → Prop} {YP : World → Heap → Prop} {d : DefRec} {K : Params → PySem.W.Frag} (hn : l.most = some 63) (hdf : d.params.defaults = [])
    (hY : ∀ (w : World) (h : Heap), YP w h → (K w.params).In h)
    (F : ∀ (w : World) (mg : Str → Option Value) (fa : Addr) (h : Heap), (K w.params).In h → h.Ns mainGlobals mg → mg d.name = some (.ref fa) →
      ∃ fd : FuncData, (∀ (s : Shared) (u : Value), BindsTo s fd ⟨[u], []⟩ [("_law_script", u)]) ∧ ∀ base : Heap, (K w.params).In base → base.Ns mainGlobals mg → FnOk l.prog w (K w.params) mg base CX0 12 fa fd ["_law_script"] (spLaw (K w.params))) :
    PySem.W.WalkO q loose XP YP l.row.toRowW d [] (fun f vs => PySem.call f vs) :=
  L2.walk_of (n := 63) (k := 12) (x := "_law_script") (CX := fun _ => CX0) (sp := fun w => spLaw (K w.params)) hn (by decide) hdf ⟨rfl, by decide, by decide⟩ hY F (fun _ _ a ns hl _ hS => ⟨a, ns, rfl, hS, hl, fun _ => rfl⟩) fun _ _ _ _ _ z => z
end KW
open PySem PySem.W PyProof.Rows in
set_option maxRecDepth 100000 in
set_option maxHeartbeats 0 in
theorem PySem.Challenge.cw_lightturns_k29_whole_kinds_together_holds : PySem.Challenge.rw_lightturns_k29_whole_kinds_together.Holds := by
  w_on; o_law; k_head; (case hw => w_witness2)
  k_fill
  refine KW.walk (l := PySem.Challenge.rw_lightturns_k29_whole_kinds_together) rfl rfl (fun w h Y => PySem.W.kIn_of Y) ?F
  case F =>
    intro w mg fa h KX G hmg
    refine' KW.all_ok KX G hmg ?TT ?hK ?hE ?hW ?d0 ?d1 ?d2 ?d3 ?d4 ?d5 ?d6 ?d7 ?d8 ?d9 ?d10 ?d11 ?d12 ?d13 ?d14 ?d15 ?d16 ?d17 ?d18 ?d19 ?d20 ?d21 ?d22 ?d23 ?d24 ?d25 ?d26 ?d27 ?d28 ?d29 ?d30
    (case TT =>
      refine' KW.tx_of KX G ?z0 ?z1 ?z2 ?z3 ?z4 ?z5 ?z6 ?z7 ?z8 ?z9 ?z10 ?z11 ?z12 ?z13 ?z14 ?z15 ?zL ?zR ?zM ?zF ?lF ?hF
      (case z0 => k_is)
      (case z1 => k_is)
      (case z2 => k_is)
      (case z3 => k_is)
      (case z4 => k_is)
      (case z5 => k_is)
      (case z6 => k_is)
      (case z7 => k_is)
      (case z8 => k_is)
      (case z9 => k_is)
      (case z10 => k_is)
      (case z11 => k_is)
      (case z12 => k_is)
      (case z13 => k_is)
      (case z14 => k_is)
      (case z15 => k_is)
      (case zL => k_is)
      (case zR => k_is)
      (case zM => k_is)
      (case zF => k_is)
      (case lF => k_is)
      (case hF => rfl))
    (case hK =>
      refine' KW.kindF ?a ?pg ?hd ?po ?sa ?nR ?mk ?kc ?ha ?hn ?ht ?hm ?mI ?mT ?mE ?mL
      (case a => k_is)
      (case pg => k_is)
      (case hd => k_is)
      (case po => k_is)
      (case sa => k_is)
      (case nR => k_is)
      (case mk => k_is)
      (case kc => k_is)
      (case ha => k_is)
      (case hn => k_is)
      (case ht => k_is)
      (case hm => k_is)
      (case mI => (refine' KW.standsM ?a ?i ?l ?c ?k; (case a => k_is); (case i => k_is); (case l => k_is); (case c => k_is); (case k => k_is)))
      (case mT => (refine' KW.standsM ?a ?i ?l ?c ?k; (case a => k_is); (case i => k_is); (case l => k_is); (case c => k_is); (case k => k_is)))
      (case mE => (refine' KW.standsM ?a ?i ?l ?c ?k; (case a => k_is); (case i => k_is); (case l => k_is); (case c => k_is); (case k => k_is)))
      (case mL => (refine' KW.standsM ?a ?i ?l ?c ?k; (case a => k_is); (case i => k_is); (case l => k_is); (case c => k_is); (case k => k_is))))
    (case hE =>
      refine' ⟨_, _, _, _, _, KW.ExcF.mk ?aL ?aB ?aW ?aN ?aT ?xN ?xT ?kN ?kT ?bL ?bN ?bT ?tL ?tB ?tW ?tN ?tT ?dL ?dN ?dT ?iB ?iW ?iN ?sNN ?sTL ?sTT ?sTB ?sTW ?sTN ?hg ?hk ?ha ?hn ?ht ?hm⟩
      (case aL => k_is)
      (case aB => k_is)
      (case aW => k_is)
      (case aN => k_is)
      (case aT => k_is)
      (case xN => k_exc)
      (case xT => k_exc)
      (case kN => k_is)
      (case kT => k_is)
      (case bL => k_is)
      (case bN => k_is)
      (case bT => k_is)
      (case tL => k_is)
      (case tB => k_is)
      (case tW => k_is)
      (case tN => k_is)
      (case tT => k_is)
      (case dL => k_is)
      (case dN => k_is)
      (case dT => k_is)
      (case iB => k_is)
      (case iW => k_is)
      (case iN => k_is)
      (case sNN => k_is)
      (case sTL => k_is)
      (case sTT => k_is)
      (case sTB => k_is)
      (case sTW => k_is)
      (case sTN => k_is)
      (case hg => k_is)
      (case hk => k_is)
      (case ha => k_is)
      (case hn => k_is)
      (case ht => k_is)
      (case hm => k_is))
    (case hW => (refine' KW.standsW ?a ?l ?lT ?hi ?c ?k; (case a => k_is); (case l => k_is); (case lT => k_is); (case hi => rfl); (case c => k_is); (case k => k_is)))
    (case d0 => (refine' KW.stands ?a ?l ?c ?k; (case a => k_is); (case l => k_is); (case c => k_is); (case k => k_is)))
    (case d1 => (refine' KW.stands ?a ?l ?c ?k; (case a => k_is); (case l => k_is); (case c => k_is); (case k => k_is)))
    (case d2 => (refine' KW.stands ?a ?l ?c ?k; (case a => k_is); (case l => k_is); (case c => k_is); (case k => k_is)))
    (case d3 => (refine' KW.stands ?a ?l ?c ?k; (case a => k_is); (case l => k_is); (case c => k_is); (case k => k_is)))
    (case d4 => (refine' KW.stands ?a ?l ?c ?k; (case a => k_is); (case l => k_is); (case c => k_is); (case k => k_is)))
    (case d5 => (refine' KW.stands ?a ?l ?c ?k; (case a => k_is); (case l => k_is); (case c => k_is); (case k => k_is)))
    (case d6 => (refine' KW.stands ?a ?l ?c ?k; (case a => k_is); (case l => k_is); (case c => k_is); (case k => k_is)))
    (case d7 => (refine' KW.stands ?a ?l ?c ?k; (case a => k_is); (case l => k_is); (case c => k_is); (case k => k_is)))
    (case d8 => (refine' KW.stands ?a ?l ?c ?k; (case a => k_is); (case l => k_is); (case c => k_is); (case k => k_is)))
    (case d9 => (refine' KW.stands ?a ?l ?c ?k; (case a => k_is); (case l => k_is); (case c => k_is); (case k => k_is)))
    (case d10 => (refine' KW.stands ?a ?l ?c ?k; (case a => k_is); (case l => k_is); (case c => k_is); (case k => k_is)))
    (case d11 => (refine' KW.stands ?a ?l ?c ?k; (case a => k_is); (case l => k_is); (case c => k_is); (case k => k_is)))
    (case d12 => (refine' KW.stands ?a ?l ?c ?k; (case a => k_is); (case l => k_is); (case c => k_is); (case k => k_is)))
    (case d13 => (refine' KW.stands ?a ?l ?c ?k; (case a => k_is); (case l => k_is); (case c => k_is); (case k => k_is)))
    (case d14 => (refine' KW.stands ?a ?l ?c ?k; (case a => k_is); (case l => k_is); (case c => k_is); (case k => k_is)))
    (case d15 => (refine' KW.stands ?a ?l ?c ?k; (case a => k_is); (case l => k_is); (case c => k_is); (case k => k_is)))
    (case d16 => (refine' KW.stands ?a ?l ?c ?k; (case a => k_is); (case l => k_is); (case c => k_is); (case k => k_is)))
    (case d17 => (refine' KW.stands ?a ?l ?c ?k; (case a => k_is); (case l => k_is); (case c => k_is); (case k => k_is)))
    (case d18 => (refine' KW.stands ?a ?l ?c ?k; (case a => k_is); (case l => k_is); (case c => k_is); (case k => k_is)))
    (case d19 => (refine' KW.stands ?a ?l ?c ?k; (case a => k_is); (case l => k_is); (case c => k_is); (case k => k_is)))
    (case d20 => (refine' KW.stands ?a ?l ?c ?k; (case a => k_is); (case l => k_is); (case c => k_is); (case k => k_is)))
    (case d21 => (refine' KW.stands ?a ?l ?c ?k; (case a => k_is); (case l => k_is); (case c => k_is); (case k => k_is)))
    (case d22 => (refine' KW.stands ?a ?l ?c ?k; (case a => k_is); (case l => k_is); (case c => k_is); (case k => k_is)))
    (case d23 => (refine' KW.stands ?a ?l ?c ?k; (case a => k_is); (case l => k_is); (case c => k_is); (case k => k_is)))
    (case d24 => (refine' KW.stands ?a ?l ?c ?k; (case a => k_is); (case l => k_is); (case c => k_is); (case k => k_is)))
    (case d25 => (refine' KW.stands ?a ?l ?c ?k; (case a => k_is); (case l => k_is); (case c => k_is); (case k => k_is)))
    (case d26 => (refine' KW.stands ?a ?l ?c ?k; (case a => k_is); (case l => k_is); (case c => k_is); (case k => k_is)))
    (case d27 => (refine' KW.stands ?a ?l ?c ?k; (case a => k_is); (case l => k_is); (case c => k_is); (case k => k_is)))
    (case d28 => (refine' KW.stands ?a ?l ?c ?k; (case a => k_is); (case l => k_is); (case c => k_is); (case k => k_is)))
    (case d29 => (refine' KW.stands ?a ?l ?c ?k; (case a => k_is); (case l => k_is); (case c => k_is); (case k => k_is)))
    (case d30 => (refine' KW.stands ?a ?l ?c ?k; (case a => k_is); (case l => k_is); (case c => k_is); (case k => k_is)))
