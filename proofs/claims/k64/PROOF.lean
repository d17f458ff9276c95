import PyProof.Rows.All
import Wide.All
import OpenK.AllK
import Wide.FinOn
import HandS.ForMost
import HandS.Zip
import KE.GoesNew
import HandS.SetFor
import HandS.SetBool
import KE.SortData
import HandS.TupLe
import HandS.DictComp
import KE.KDictDisplayH
import HandS.TupMul
import HandS.Codes
import HandS.IsInst
import HandS.SortInts
import HandS.TupAny
import HandS.Defaults
import HandS.Style
import HandS.Conv
import HandS.NoneIn
import PySem.Challenge.RW_doorlots_k64_whole_castle_distances
set_option Elab.async false
set_option maxRecDepth 100000
/-! Doorlots, the plain mathematics: houses as maps of ends, walks, distances, the search by breadth. No program in sight. -/
namespace Dm
section
variable {C : Type}

/-- a walk of so many pushes that move -/
inductive Walk (E : Nat → C → Option Nat) : Nat → Nat → Nat → Prop
  | nil (a : Nat) : Walk E 0 a a
  | snoc {n a b d : Nat} {c : C} : Walk E n a b → E b c = some d → Walk E (n + 1) a d

structure House (N : Nat) (W : C → Prop) (E : Nat → C → Option Nat) : Prop where
  two : 2 ≤ N
  lt : ∀ h c x, E h c = some x → h < N ∧ x < N
  ne : ∀ h c x, E h c = some x → h ≠ x
  sym : ∀ h c x, E h c = some x → E x c = some h
  col : ∀ h c x, E h c = some x → W c
  con : ∀ h, h < N → ∃ n, Walk E n 0 h

variable {E : Nat → C → Option Nat} {N : Nat} {W : C → Prop}

theorem Walk.trans {a b d n m : Nat} (x : Walk E n a b) (y : Walk E m b d) : Walk E (n + m) a d := by
  induction y with
  | nil _ => exact x
  | snoc _ e ih => exact Walk.snoc (ih x) e

theorem Walk.one {a b : Nat} {c : C} (e : E a c = some b) : Walk E 1 a b := Walk.snoc (Walk.nil a) e

theorem Walk.symm (hs : ∀ h c x, E h c = some x → E x c = some h) {a b n : Nat} (x : Walk E n a b) : Walk E n b a := by
  induction x with
  | nil a => exact Walk.nil a
  | @snoc n a b d c _ e ih =>
    have q := (Walk.one (hs _ _ _ e)).trans ih
    rw [Nat.add_comm] at q
    exact q

theorem Walk.zero {a b : Nat} (x : Walk E 0 a b) : a = b := by
  cases x
  rfl

theorem Walk.mono {E' : Nat → C → Option Nat} (h : ∀ a c b, E a c = some b → E' a c = some b) {a b n : Nat} (x : Walk E n a b) : Walk E' n a b := by
  induction x with
  | nil a => exact Walk.nil a
  | snoc _ e ih => exact Walk.snoc ih (h _ _ _ e)

theorem Walk.map {C' : Type} {E' : Nat → C' → Option Nat} (f : Nat → Nat) (g : C → C') (h : ∀ a c b, E a c = some b → E' (f a) (g c) = some (f b)) {a b n : Nat} (x : Walk E n a b) : Walk E' n (f a) (f b) := by
  induction x with
  | nil a => exact Walk.nil _
  | snoc _ e ih => exact Walk.snoc ih (h _ _ _ e)

def IsDist (E : Nat → C → Option Nat) (a b d : Nat) : Prop := Walk E d a b ∧ ∀ n, Walk E n a b → d ≤ n

theorem least (p : Nat → Prop) : ∀ n, p n → ∃ d, p d ∧ ∀ m, p m → d ≤ m := by
  intro n
  induction n using Nat.strongRecOn with
  | _ n ih =>
    intro h
    by_cases q : ∃ m, m < n ∧ p m
    · obtain ⟨m, h1, h2⟩ := q
      exact ih m h1 h2
    · refine ⟨n, h, fun m hm => ?_⟩
      rcases Nat.lt_or_ge m n with z | z
      · exact absurd ⟨m, z, hm⟩ q
      · exact z

theorem isDist_of {a b n : Nat} (x : Walk E n a b) : ∃ d, IsDist E a b d := by
  obtain ⟨d, h1, h2⟩ := least (fun n => Walk E n a b) n x
  exact ⟨d, h1, h2⟩

theorem isDist_uniq {a b d e : Nat} (x : IsDist E a b d) (y : IsDist E a b e) : d = e :=
  Nat.le_antisymm (x.2 _ y.1) (y.2 _ x.1)

open Classical in
/-- the distance -/
noncomputable def dist (E : Nat → C → Option Nat) (a b : Nat) : Nat := if h : ∃ d, IsDist E a b d then Classical.choose h else 0

theorem dist_eq {a b d : Nat} (x : IsDist E a b d) : dist E a b = d := by
  have h : ∃ d, IsDist E a b d := ⟨d, x⟩
  unfold dist
  rw [dif_pos h]
  exact isDist_uniq (Classical.choose_spec h) x

theorem dist_is {a b n : Nat} (x : Walk E n a b) : IsDist E a b (dist E a b) := by
  obtain ⟨d, h⟩ := isDist_of x
  rw [dist_eq h]
  exact h

theorem dist_le {a b n : Nat} (x : Walk E n a b) : dist E a b ≤ n := (dist_is x).2 _ x

theorem dist_self (a : Nat) : dist E a a = 0 := Nat.le_zero.mp (dist_le (Walk.nil a))

theorem dist_zero {a b n : Nat} (x : Walk E n a b) (h : dist E a b = 0) : a = b := by
  have q := (dist_is x).1
  rw [h] at q
  exact q.zero

theorem dist_symm (hs : ∀ h c x, E h c = some x → E x c = some h) {a b n : Nat} (x : Walk E n a b) : dist E a b = dist E b a :=
  (dist_eq ⟨(dist_is (x.symm hs)).1.symm hs, fun m y => dist_le (y.symm hs)⟩)

theorem dist_tri {a b d n m : Nat} (x : Walk E n a b) (y : Walk E m b d) : dist E a d ≤ dist E a b + dist E b d :=
  dist_le ((dist_is x).1.trans (dist_is y).1)

theorem House.walk (G : House N W E) {a b : Nat} (ha : a < N) (hb : b < N) : ∃ n, Walk E n a b := by
  obtain ⟨n, x⟩ := G.con a ha
  obtain ⟨m, y⟩ := G.con b hb
  exact ⟨n + m, (x.symm G.sym).trans y⟩

theorem House.walk_lt (G : House N W E) {a b n : Nat} (ha : a < N) (x : Walk E n a b) : b < N := by
  cases x with
  | nil => exact ha
  | snoc _ e => exact (G.lt _ _ _ e).2

/-! ### lists -/
theorem nodup_le : ∀ (N : Nat) (l : List Nat), l.Nodup → (∀ x ∈ l, x < N) → l.length ≤ N
  | 0, l, _, h => by
    cases l with
    | nil => exact Nat.le_refl _
    | cons x r => exact absurd (h x List.mem_cons_self) (Nat.not_lt_zero _)
  | N + 1, l, hn, h => by
    have h1 : (l.erase N).Nodup := hn.erase N
    have h2 : ∀ x ∈ l.erase N, x < N := fun x hx => by
      have a := h x (List.mem_of_mem_erase hx)
      have b : x ≠ N := fun e => by
        subst e
        exact (List.Nodup.not_mem_erase hn) hx
      omega
    have q := nodup_le N _ h1 h2
    have e : l.length ≤ (l.erase N).length + 1 := by
      by_cases hm : N ∈ l
      · rw [List.length_erase_of_mem hm]
        omega
      · rw [List.erase_of_not_mem hm]
        omega
    omega

/-- a rising list of just the numbers from k on -/
theorem rising_range : ∀ (n k : Nat) (l : List Nat), l.Pairwise (· < ·) → (∀ x, x ∈ l ↔ k ≤ x ∧ x < k + n) → l = List.range' k n
  | 0, k, l, _, h => by
    cases l with
    | nil => rfl
    | cons x r =>
      have q := (h x).1 List.mem_cons_self
      omega
  | n + 1, k, l, hp, h => by
    cases l with
    | nil =>
      have q := (h k).2 ⟨Nat.le_refl _, by omega⟩
      cases q
    | cons a r =>
      obtain ⟨h1, h2⟩ := List.pairwise_cons.mp hp
      have ha := (h a).1 List.mem_cons_self
      have hk : a = k := by
        rcases List.mem_cons.mp ((h k).2 ⟨Nat.le_refl _, by omega⟩) with e | e
        · exact e.symm
        · have := h1 k e
          omega
      subst hk
      have q := rising_range n (a + 1) r h2 fun x => by
        constructor
        · intro hx
          have := (h x).1 (List.mem_cons_of_mem _ hx)
          have := h1 x hx
          omega
        · rintro ⟨x1, x2⟩
          rcases List.mem_cons.mp ((h x).2 ⟨by omega, by omega⟩) with e | e
          · omega
          · exact e
      rw [q, List.range'_succ]

/-! ### the search by breadth -/
structure Bfs (E : Nat → C → Option Nat) (s : Nat) (order : List Nat) (at_ : Nat) : Prop where
  nd : order.Nodup
  hd : order[0]? = some s
  re : ∀ x ∈ order, ∃ n, Walk E n s x
  mono : order.Pairwise fun x y => dist E s x ≤ dist E s y
  near : ∀ x, order[at_]? = some x → ∀ y ∈ order, dist E s y ≤ dist E s x + 1
  closed : ∀ i, i < at_ → ∀ x, order[i]? = some x → ∀ c y, E x c = some y → y ∈ order

theorem Bfs.start (s : Nat) : Bfs E s [s] 0 where
  nd := by simp
  hd := rfl
  re := fun x hx => by
    rw [List.mem_singleton.mp hx]
    exact ⟨0, Walk.nil s⟩
  mono := by simp
  near := fun x hx y hy => by
    have e : s = x := Option.some.inj hx
    rw [List.mem_singleton.mp hy, ← e]
    omega
  closed := fun i hi => absurd hi (Nat.not_lt_zero _)

theorem Bfs.src {s at_ : Nat} {order : List Nat} (B : Bfs E s order at_) : s ∈ order := List.mem_of_getElem? B.hd

theorem Bfs.found {s at_ x : Nat} {order : List Nat} (B : Bfs E s order at_) (hx : order[at_]? = some x) : ∀ {n a z : Nat}, Walk E n a z → a = s → n ≤ dist E s x → z ∈ order := by
  intro n a z w
  induction w with
  | nil a =>
    intro e _
    rw [e]
    exact B.src
  | @snoc n a b d c w e ih =>
    intro ea hn
    have hb := ih ea (by omega)
    obtain ⟨i, hi⟩ := List.mem_iff_getElem?.mp hb
    have hdb : dist E s b ≤ n := by
      rw [← ea]
      exact dist_le w
    rcases Nat.lt_or_ge i at_ with q | q
    · exact B.closed i q b hi c d e
    · exfalso
      have : dist E s x ≤ dist E s b := by
        rcases Nat.lt_or_ge at_ i with q2 | q2
        · obtain ⟨h1, e1⟩ := List.getElem?_eq_some_iff.mp hx
          obtain ⟨h2, e2⟩ := List.getElem?_eq_some_iff.mp hi
          have := List.pairwise_iff_getElem.mp B.mono at_ i h1 h2 q2
          rw [e1, e2] at this
          exact this
        · have ei : i = at_ := Nat.le_antisymm q2 q
          rw [ei, hx] at hi
          rw [Option.some.inj hi]
          exact Nat.le_refl _
      omega

theorem Bfs.new {s at_ x y : Nat} {c : C} {order : List Nat} (B : Bfs E s order at_) (hx : order[at_]? = some x) (e : E x c = some y) (hy : y ∉ order) : dist E s y = dist E s x + 1 := by
  obtain ⟨n, w⟩ := B.re x (List.mem_of_getElem? hx)
  refine dist_eq ⟨Walk.snoc (dist_is w).1 e, fun m wm => ?_⟩
  rcases Nat.lt_or_ge m (dist E s x + 1) with q | q
  · exact absurd (B.found hx wm rfl (by omega)) hy
  · exact q

/-- one more is found -/
theorem Bfs.push {s at_ x y : Nat} {c : C} {order : List Nat} (B : Bfs E s order at_) (hx : order[at_]? = some x) (e : E x c = some y) (hy : y ∉ order) : Bfs E s (order ++ [y]) at_ := by
  have hd := B.new hx e hy
  have hl : at_ < order.length := (List.getElem?_eq_some_iff.mp hx).1
  have near' : ∀ z ∈ order ++ [y], dist E s z ≤ dist E s x + 1 := fun z hz => by
    rcases List.mem_append.mp hz with q | q
    · exact B.near x hx z q
    · rw [List.mem_singleton.mp q, hd]
      omega
  refine ⟨?_, ?_, ?_, ?_, ?_, ?_⟩
  · refine List.nodup_append.mpr ⟨B.nd, by simp, fun a ha b hb => ?_⟩
    rw [List.mem_singleton.mp hb]
    rintro rfl
    exact hy ha
  · rw [List.getElem?_append_left (by omega)]
    exact B.hd
  · intro z hz
    rcases List.mem_append.mp hz with q | q
    · exact B.re z q
    · rw [List.mem_singleton.mp q]
      obtain ⟨n, w⟩ := B.re x (List.mem_of_getElem? hx)
      exact ⟨n + 1, Walk.snoc w e⟩
  · refine List.pairwise_append.mpr ⟨B.mono, by simp, fun a ha b hb => ?_⟩
    rw [List.mem_singleton.mp hb, hd]
    exact B.near x hx a ha
  · intro z hz
    rw [List.getElem?_append_left hl, hx] at hz
    rw [← Option.some.inj hz]
    exact near'
  · intro i hi z hz d w ew
    rw [List.getElem?_append_left (by omega)] at hz
    exact List.mem_append_left _ (B.closed i hi z hz d w ew)

/-- the next place -/
theorem Bfs.next {s at_ x : Nat} {order : List Nat} (B : Bfs E s order at_) (hx : order[at_]? = some x) (h : ∀ c y, E x c = some y → y ∈ order) : Bfs E s order (at_ + 1) := by
  refine ⟨B.nd, B.hd, B.re, B.mono, ?_, ?_⟩
  · intro z hz y hy
    have q := B.near x hx y hy
    obtain ⟨h1, e1⟩ := List.getElem?_eq_some_iff.mp hx
    obtain ⟨h2, e2⟩ := List.getElem?_eq_some_iff.mp hz
    have := List.pairwise_iff_getElem.mp B.mono at_ (at_ + 1) h1 h2 (Nat.lt_succ_self _)
    rw [e1, e2] at this
    omega
  · intro i hi z hz c y e
    rcases Nat.lt_or_ge i at_ with q | q
    · exact B.closed i q z hz c y e
    · have ei : i = at_ := by omega
      rw [ei, hx] at hz
      rw [← Option.some.inj hz] at e
      exact h c y e

theorem Bfs.done {s at_ : Nat} {order : List Nat} (B : Bfs E s order at_) (hl : order.length ≤ at_) : ∀ {n a z : Nat}, Walk E n a z → a = s → z ∈ order := by
  intro n a z w
  induction w with
  | nil a =>
    intro e
    rw [e]
    exact B.src
  | @snoc n a b d c w e ih =>
    intro ea
    obtain ⟨i, hi⟩ := List.mem_iff_getElem?.mp (ih ea)
    exact B.closed i (Nat.lt_of_lt_of_le (List.getElem?_eq_some_iff.mp hi).1 hl) b hi c d e

theorem Bfs.lt {s at_ : Nat} {order : List Nat} (B : Bfs E s order at_) (G : House N W E) (hs : s < N) : ∀ x ∈ order, x < N := fun x hx => by
  obtain ⟨n, w⟩ := B.re x hx
  exact G.walk_lt hs w

theorem Bfs.len {s at_ : Nat} {order : List Nat} (B : Bfs E s order at_) (G : House N W E) (hs : s < N) : order.length ≤ N := nodup_le N order B.nd (B.lt G hs)

theorem Bfs.all {s at_ : Nat} {order : List Nat} (B : Bfs E s order at_) (G : House N W E) (hs : s < N) (hl : order.length ≤ at_) {x : Nat} (hx : x < N) : x ∈ order := by
  obtain ⟨n, w⟩ := G.walk hs hx
  exact B.done hl w rfl

/-! ### how houses are built -/
variable [DecidableEq C]
/-- one end more -/
def put (E : Nat → C → Option Nat) (h : Nat) (c : C) (x : Nat) : Nat → C → Option Nat := fun h' c' => if h' = h ∧ c' = c then some x else E h' c'
theorem put_same {h : Nat} {c : C} {x : Nat} : put E h c x h c = some x := by
  unfold put
  rw [if_pos ⟨rfl, rfl⟩]
theorem put_ne {h h' : Nat} {c c' : C} {x : Nat} (e : ¬ (h' = h ∧ c' = c)) : put E h c x h' c' = E h' c' := by
  unfold put
  rw [if_neg e]
/-- a door: both its ends -/
def door (E : Nat → C → Option Nat) (a : Nat) (c : C) (b : Nat) : Nat → C → Option Nat := put (put E a c b) b c a
theorem door_cases {a b h x : Nat} {c d : C} (e : door E a c b h d = some x) : (h = b ∧ d = c ∧ x = a) ∨ (h = a ∧ d = c ∧ x = b) ∨ E h d = some x := by
  unfold door put at e
  by_cases h1 : h = b ∧ d = c
  · rw [if_pos h1] at e
    exact .inl ⟨h1.1, h1.2, (Option.some.inj e).symm⟩
  · rw [if_neg h1] at e
    by_cases h2 : h = a ∧ d = c
    · rw [if_pos h2] at e
      exact .inr (.inl ⟨h2.1, h2.2, (Option.some.inj e).symm⟩)
    · rw [if_neg h2] at e
      exact .inr (.inr e)
theorem door_b {a b : Nat} {c : C} : door E a c b b c = some a := put_same
theorem door_a {a b : Nat} {c : C} (ne : a ≠ b) : door E a c b a c = some b := by
  unfold door
  rw [put_ne (fun q => ne q.1)]
  exact put_same
theorem door_old {a b h x : Nat} {c d : C} (ea : E a c = none) (eb : E b c = none) (e : E h d = some x) : door E a c b h d = some x := by
  unfold door
  rw [put_ne, put_ne]
  · exact e
  · rintro ⟨rfl, rfl⟩
    rw [ea] at e
    cases e
  · rintro ⟨rfl, rfl⟩
    rw [eb] at e
    cases e

/-- a door between two halls -/
theorem House.door {a b : Nat} {c : C} (G : House N W E) (ha : a < N) (hb : b < N) (ne : a ≠ b) (hc : W c) (ea : E a c = none) (eb : E b c = none) : House N W (door E a c b) where
  two := G.two
  lt := fun h d x e => by
    rcases door_cases e with ⟨rfl, _, rfl⟩ | ⟨rfl, _, rfl⟩ | e
    · exact ⟨hb, ha⟩
    · exact ⟨ha, hb⟩
    · exact G.lt h d x e
  ne := fun h d x e => by
    rcases door_cases e with ⟨rfl, _, rfl⟩ | ⟨rfl, _, rfl⟩ | e
    · exact ne.symm
    · exact ne
    · exact G.ne h d x e
  sym := fun h d x e => by
    rcases door_cases e with ⟨rfl, rfl, rfl⟩ | ⟨rfl, rfl, rfl⟩ | e
    · exact door_a ne
    · exact door_b
    · exact door_old ea eb (G.sym h d x e)
  col := fun h d x e => by
    rcases door_cases e with ⟨_, rfl, _⟩ | ⟨_, rfl, _⟩ | e
    · exact hc
    · exact hc
    · exact G.col h d x e
  con := fun h hh => by
    obtain ⟨n, w⟩ := G.con h hh
    exact ⟨n, w.mono fun _ _ _ e => door_old ea eb e⟩

/-- a new hall behind a door -/
theorem House.grow {a : Nat} {c : C} (G : House N W E) (ha : a < N) (hc : W c) (ea : E a c = none) : House (N + 1) W (Dm.door E a c N) := by
  have eN : ∀ d, E N d = none := fun d => by
    cases q : E N d with
    | none => rfl
    | some x => exact absurd (G.lt N d x q).1 (Nat.lt_irrefl _)
  have ne : a ≠ N := Nat.ne_of_lt ha
  refine ⟨Nat.le_succ_of_le G.two, fun h d x e => ?_, fun h d x e => ?_, fun h d x e => ?_, fun h d x e => ?_, fun h hh => ?_⟩
  · rcases door_cases e with ⟨rfl, _, rfl⟩ | ⟨rfl, _, rfl⟩ | e
    · omega
    · omega
    · have := G.lt h d x e
      omega
  · rcases door_cases e with ⟨rfl, _, rfl⟩ | ⟨rfl, _, rfl⟩ | e
    · exact ne.symm
    · exact ne
    · exact G.ne h d x e
  · rcases door_cases e with ⟨rfl, rfl, rfl⟩ | ⟨rfl, rfl, rfl⟩ | e
    · exact door_a ne
    · exact door_b
    · exact door_old ea (eN _) (G.sym h d x e)
  · rcases door_cases e with ⟨_, rfl, _⟩ | ⟨_, rfl, _⟩ | e
    · exact hc
    · exact hc
    · exact G.col h d x e
  · rcases Nat.lt_or_ge h N with q | q
    · obtain ⟨n, w⟩ := G.con h q
      exact ⟨n, w.mono fun _ _ _ e => door_old ea (eN _) e⟩
    · have e : h = N := by omega
      subst e
      obtain ⟨n, w⟩ := G.con a ha
      exact ⟨n + 1, Walk.snoc (w.mono fun _ _ _ e => door_old ea (eN _) e) (door_a ne)⟩

/-- two halls, one door -/
theorem House.two_ {c : C} (hc : W c) : House 2 W (Dm.door (fun _ _ => none) 0 c 1) := by
  refine ⟨Nat.le_refl _, fun h d x e => ?_, fun h d x e => ?_, fun h d x e => ?_, fun h d x e => ?_, fun h hh => ?_⟩
  · rcases door_cases e with ⟨rfl, _, rfl⟩ | ⟨rfl, _, rfl⟩ | e
    · omega
    · omega
    · cases e
  · rcases door_cases e with ⟨rfl, _, rfl⟩ | ⟨rfl, _, rfl⟩ | e
    · decide
    · decide
    · cases e
  · rcases door_cases e with ⟨rfl, rfl, rfl⟩ | ⟨rfl, rfl, rfl⟩ | e
    · exact door_a (by decide)
    · exact door_b
    · cases e
  · rcases door_cases e with ⟨_, rfl, _⟩ | ⟨_, rfl, _⟩ | e
    · exact hc
    · exact hc
    · cases e
  · rcases Nat.lt_or_ge h 1 with q | q
    · have e : h = 0 := by omega
      subst e
      exact ⟨0, Walk.nil 0⟩
    · have e : h = 1 := by omega
      subst e
      exact ⟨1, Walk.one (door_a (by decide))⟩

theorem House.more {W' : C → Prop} (G : House N W E) (h : ∀ c, W c → W' c) : House N W' E := ⟨G.two, G.lt, G.ne, G.sym, fun a c x e => h c (G.col a c x e), G.con⟩

/-- the same house, its halls in another order: f takes a hall to its new number, g back -/
theorem House.renumber {E' : Nat → C → Option Nat} (f g : Nat → Nat) (G : House N W E) (hf : ∀ h, h < N → f h < N) (hg : ∀ h, h < N → g h < N ∧ f (g h) = h) (inj : ∀ a b, a < N → b < N → f a = f b → a = b)
    (h1 : ∀ h c x, E h c = some x → E' (f h) c = some (f x)) (h2 : ∀ h c x, E' h c = some x → ∃ h' x', E h' c = some x' ∧ h = f h' ∧ x = f x') : House N W E' where
  two := G.two
  lt := fun h c x e => by
    obtain ⟨h', x', e', rfl, rfl⟩ := h2 h c x e
    have := G.lt _ _ _ e'
    exact ⟨hf _ this.1, hf _ this.2⟩
  ne := fun h c x e => by
    obtain ⟨h', x', e', rfl, rfl⟩ := h2 h c x e
    have := G.lt _ _ _ e'
    exact fun q => G.ne _ _ _ e' (inj _ _ this.1 this.2 q)
  sym := fun h c x e => by
    obtain ⟨h', x', e', rfl, rfl⟩ := h2 h c x e
    exact h1 _ _ _ (G.sym _ _ _ e')
  col := fun h c x e => by
    obtain ⟨h', x', e', rfl, rfl⟩ := h2 h c x e
    exact G.col _ _ _ e'
  con := fun h hh => by
    have h0 : 0 < N := by
      have := G.two
      omega
    obtain ⟨a1, a2⟩ := hg 0 h0
    obtain ⟨b1, b2⟩ := hg h hh
    obtain ⟨n, w⟩ := G.walk a1 b1
    have q := w.map (E' := E') f id fun a c b e => h1 a c b e
    rw [a2, b2] at q
    exact ⟨n, q⟩

/-- the cross of two houses -/
theorem House.cross {N2 : Nat} {W2 : C → Prop} {E2 E' : Nat → C → Option Nat} (G : House N W E) (G2 : House N2 W2 E2) (dj : ∀ c, W c → W2 c → False)
    (h1 : ∀ h c x y, y < N2 → E h c = some x → E' (h * N2 + y) c = some (x * N2 + y)) (h2 : ∀ h c x y, y < N → E2 h c = some x → E' (y * N2 + h) c = some (y * N2 + x))
    (h3 : ∀ k c z, E' k c = some z → (∃ h x y, y < N2 ∧ E h c = some x ∧ k = h * N2 + y ∧ z = x * N2 + y) ∨ (∃ h x y, y < N ∧ E2 h c = some x ∧ k = y * N2 + h ∧ z = y * N2 + x)) : House (N * N2) (fun c => W c ∨ W2 c) E' := by
  have lt2 : ∀ a b, a < N → b < N2 → a * N2 + b < N * N2 := fun a b ha hb => by
    have : (a + 1) * N2 ≤ N * N2 := Nat.mul_le_mul_right N2 ha
    rw [Nat.add_mul] at this
    omega
  refine ⟨?_, fun k c z e => ?_, fun k c z e => ?_, fun k c z e => ?_, fun k c z e => ?_, fun k hk => ?_⟩
  · have := Nat.mul_le_mul G.two G2.two
    omega
  · rcases h3 k c z e with ⟨h, x, y, hy, e', rfl, rfl⟩ | ⟨h, x, y, hy, e', rfl, rfl⟩
    · have := G.lt _ _ _ e'
      exact ⟨lt2 _ _ this.1 hy, lt2 _ _ this.2 hy⟩
    · have := G2.lt _ _ _ e'
      exact ⟨lt2 _ _ hy this.1, lt2 _ _ hy this.2⟩
  · rcases h3 k c z e with ⟨h, x, y, hy, e', rfl, rfl⟩ | ⟨h, x, y, hy, e', rfl, rfl⟩
    · intro q
      have q' : h * N2 = x * N2 := by omega
      exact G.ne _ _ _ e' (Nat.eq_of_mul_eq_mul_right (by have := G2.two; omega) q')
    · intro q
      exact G2.ne _ _ _ e' (by omega)
  · rcases h3 k c z e with ⟨h, x, y, hy, e', rfl, rfl⟩ | ⟨h, x, y, hy, e', rfl, rfl⟩
    · exact h1 _ _ _ _ hy (G.sym _ _ _ e')
    · exact h2 _ _ _ _ hy (G2.sym _ _ _ e')
  · rcases h3 k c z e with ⟨h, x, y, hy, e', rfl, rfl⟩ | ⟨h, x, y, hy, e', rfl, rfl⟩
    · exact .inl (G.col _ _ _ e')
    · exact .inr (G2.col _ _ _ e')
  · have p2 : 0 < N2 := by have := G2.two; omega
    have hd : k / N2 < N := by
      rw [Nat.div_lt_iff_lt_mul p2]
      exact hk
    have hm : k % N2 < N2 := Nat.mod_lt _ p2
    obtain ⟨n, w⟩ := G.con _ hd
    obtain ⟨m, v⟩ := G2.con _ hm
    have q1 := w.map (E' := E') (fun a => a * N2 + 0) id fun a c b e => h1 a c b 0 p2 e
    have q2 := v.map (E' := E') (fun a => (k / N2) * N2 + a) id fun a c b e => h2 a c b _ hd e
    have q3 := q1.trans q2
    have ez : (0 * N2 + 0) = 0 := by omega
    have ek : (k / N2) * N2 + k % N2 = k := by
      rw [Nat.mul_comm]
      exact Nat.div_add_mod k N2
    simp only [ez, ek] at q3
    exact ⟨_, q3⟩
end
end Dm

/-! enumerate over a tuple, zip over three tuples: what a for or a comprehension walks -/
namespace DI
open PySem PySem.Spec PyProof.Rows L2

/-! ### enumerate(t), t a tuple -/
set_option maxHeartbeats 4000000 in
theorem meets_enumT (l : Addr) (items : Array Value) :
    Meets (Builtin.«enumerate.__new__» ⟨[.type "enumerate", .ref l], []⟩) (fun _ R s => s.heap.IsTuple l items ∧
      R (.ok (.ret (.ref (s.heap.push { cls := .type "tuple_iterator", data := .fields #[.ref l, .int 0 0] }).objs.size)))
        { s with heap := (s.heap.push { cls := .type "tuple_iterator", data := .fields #[.ref l, .int 0 0] }).push { cls := .type "enumerate", data := .fields #[.none, .bool false, .ref s.heap.objs.size, rawInt 0, .none, .none] } }) :=
  .of_wp fun prog w A R s h => by
    obtain ⟨hp, g, d, tk, os⟩ := s
    obtain ⟨h1, h⟩ := h
    have hsub := sub_enumerate
    have q1 : ∀ {A' : Around} {E : Value → Shared → Prop} {Q : Value → Shared → Prop}, Q (.ref hp.objs.size) ⟨hp.push { cls := .type "tuple_iterator", data := .fields #[.ref l, .int 0 0] }, g, d, tk, os⟩ → wpAny (model prog w) A' (pyIter (.ref l)) Q E ⟨hp, g, d, tk, os⟩ :=
      fun q => (begins_tuple l items).iter prog w _ _ ⟨hp, g, d, tk, os⟩ _ h1 q
    wp_walk using q1
    refine wpAny_stack_any fun st => wpAny_pure ?_
    split
    · rename_i c _ _ _ _ _
      cases (c == Value.type "enumerate")
      · wp_walk using q1
        exact ⟨_, rfl, h⟩
      · wp_walk using q1
        exact ⟨_, rfl, h⟩
    · wp_walk using q1
      exact ⟨_, rfl, h⟩

section
variable {prog : Program} {w : World} {A : Around} {E : Value → Shared → Prop} {s : Shared}
theorem call_enumT {l : Addr} {items : Array Value} {Q : Value → Shared → Prop} (hL : s.heap.IsTuple l items)
    (h : ∀ h', IsEnum h' (s.heap.objs.size + 1) s.heap.objs.size 0 .none → h'.IsTupleIter s.heap.objs.size l 0 → (∀ b o, s.heap.get? b = some o → h'.get? b = some o) → Q (.ref (s.heap.objs.size + 1)) { s with heap := h' }) :
    wpAny (model prog w) A (call (.type "enumerate") [.ref l]) Q E s := by
  refine callType_new F.called_enumerate (by decide) (F.typeCall_enumerate_1 _) (F.newCall_enumerate_1 _) (fun obj => F.args_object_init_2 obj _) F.entry_enumerate_new (meets_enumT l items) ⟨hL, ?_⟩
  generalize ho : ({ cls := .type "tuple_iterator", data := .fields #[.ref l, .int 0 0] } : Obj) = o1
  generalize ho2 : ({ cls := .type "enumerate", data := .fields #[.none, .bool false, .ref s.heap.objs.size, rawInt 0, .none, .none] } : Obj) = o2
  have f1 : o1.isFreed = false := by rw [← ho]; rfl
  have f2 : o2.isFreed = false := by rw [← ho2]; rfl
  have hz : (s.heap.push o1).objs.size = s.heap.objs.size + 1 := Heap.size_push ..
  have g2 := Heap.get?_push_size (s.heap.push o1) (o := o2) f2
  have g1 : ((s.heap.push o1).push o2).get? s.heap.objs.size = some o1 := Heap.get?_push_of_some _ (Heap.get?_push_size _ f1)
  rw [hz] at g2
  show _ ∧ _
  rw [hz]
  subst ho ho2
  exact ⟨⟨_, g2, rfl⟩, h _ g2 ⟨_, g1, rfl, rfl⟩ fun b o x => Heap.get?_push_of_some _ (Heap.get?_push_of_some _ x)⟩
end

/-- the tuple at a, each item in a new pair with its number -/
def IteT (K : PySem.W.Frag) (a : Addr) : It :=
  ⟨fun i H => ∃ (xs : List V) (x : V), SqT K H a xs ∧ xs[i]? = some x,
   fun i H v H' => ∃ T x, v = .ref T ∧ H T = none ∧ H' = upd H T (.tup [.int (i : Nat), x]) ∧ ∀ xs, SqT K H a xs → xs[i]? = some x,
   fun i H => ∃ xs : List V, SqT K H a xs ∧ xs.length = i⟩

/-- what a GoesN says of a new tuple of two or three, at the heap behind next -/
theorem goes_new {X : Cx} {pins : List (Addr × Obj)} {σ : L2.St} {H : Hp} {s : Shared} {E : Value → Shared → Prop} {tg : Expr} {I : Addr} {fp wr ch : List Addr} {n i : Nat} {Y : Nat → Heap → Value → Heap → Prop} {St : Nat → Heap → Prop} {ys : List V}
    {Q : V → Hp → Shared → Prop}
    (W : GoesN X.prog X.w X.A tg I fp wr n Y St) (hi : i < n) (st : St i s.heap) (J : Inv X pins σ H s) (hw : ∀ b ∈ wr, b ∈ ch) (hf : ∀ b ∈ ch, FpOk X pins H b)
    (hY : ∀ v h', Y i s.heap v h' → ∃ T, v = .ref T ∧ s.heap.objs.size ≤ T ∧ ∃ us : List Value, Vals ys us ∧ h'.IsTuple T us.toArray) (hl : ys.length ≤ sizeLine)
    (hQ : ∀ T (s' : Shared), H T = none → s.heap.objs.size ≤ T → Inv X pins σ (upd H T (.tup ys)) s' → St (i + 1) s'.heap → Q (.ref T) (upd H T (.tup ys)) s') :
    wpAny (model X.prog X.w) X.A (pyNext (.ref I)) (fun r s1 => ∃ u, r = some u ∧
      wpAny (model X.prog X.w) X.A (letOwnedTupleGo tg (.ref I) u) (fun _ s2 => ∃ x H', RelV x u ∧ Q x H' s2) E s1) E s := by
  refine W.goes i s (fun u s2 => ∃ x H', RelV x u ∧ Q x H' s2) E hi st fun v h' tk y st' hk _ => ?_
  obtain ⟨T, rfl, hT, us, rv, ht⟩ := hY v h' y
  have new : ObjOk X.prog X.w (upd H T (.tup ys)) h' T (.tup ys) := ⟨hl, us, rv, ht⟩
  have I1 : Inv X pins σ (upd H T (.tup ys)) { s with heap := h', toks := tk } :=
    J.turnedNew (ch := ch) (fun b ob hb q => hk b ob (fun z => hb (hw b z)) q) hf hT new
  exact ⟨.ref T, _, rfl, hQ T _ (J.hok.fresh hT) hT I1 st'⟩

theorem turn_enumT {P : Program} {w : World} {K : PySem.W.Frag} {elts : List Expr} {kk : Nat} {tpos : Pos} (a e it : Addr) :
    Turn P w K (.Tuple elts kk tpos) (IteT K a) [e, it] e (fun i h => (∃ old, IsEnum h e it ((i : Nat) : Int) old) ∧ h.IsTupleIter it a i ∧ e ≠ it ∧ a ≠ it ∧ a ≠ e) where
  mem := by simp
  obj := fun i h st b hb => by
    obtain ⟨⟨old, he⟩, ⟨o, ho, hc, hd⟩, _⟩ := st
    rcases List.mem_cons.mp hb with z | z
    · rw [z]; exact ⟨_, he, fun v q => nomatch q⟩
    · rw [List.mem_singleton.mp z]; exact ⟨o, ho, fun v q => by rw [hd] at q; cases q⟩
  keep := fun i h h' st k => let ⟨⟨old, he⟩, hi, hne⟩ := st; ⟨⟨old, k e (by simp) _ he⟩, hi.at fun o q => k it (by simp) o q, hne⟩
  item := by
    intro X hP hw hK hc i pins s σ H E I hf st hg
    subst hP hw hK
    obtain ⟨⟨old, he⟩, hit, hne, na, na2⟩ := st
    obtain ⟨xs, x, hq, hx⟩ := hg
    obtain ⟨its, rv, p, hz⟩ := I.tuple hq
    obtain ⟨u, hu, ru⟩ := rv.get hx
    have hi : i < its.toArray.size := by
      have := (List.getElem?_eq_some_iff.mp hu).1
      simpa using this
    have hel : e < s.heap.objs.size := Heap.lt_size he
    have hil : it < s.heap.objs.size := by obtain ⟨_, q, _⟩ := hit; exact Heap.lt_size q
    have W := GoesN.enumFrom (prog := X.prog) (w := X.w) (A := X.A) (elts := elts) (x1 := kk) (pos := tpos) 0 (Draws.tuple (A := X.A.in1) (show X.A.in1.handled = none from I.ok.hd hc) it a na its.toArray) e hne (by simp [hne, na2.symm]) (by simp)
    refine thn (goes_new (ys := [.int (i : Nat), x]) (ch := [e, it]) W hi ⟨⟨old, by simpa using he⟩, hit, p⟩ I (fun b hb => hb) hf ?_ (by show 2 ≤ sizeLine; decide)
      (Q := fun y H' s2 => Inv X pins σ H' s2 ∧ (IteT X.K a).yld i H y H' ∧ ((∃ old, IsEnum s2.heap e it (((i + 1 : Nat) : Nat) : Int) old) ∧ s2.heap.IsTupleIter it a (i + 1) ∧ e ≠ it ∧ a ≠ it ∧ a ≠ e) ∧ ∀ b ∈ [e, it], H' b = none) ?_) ?_
    · rintro v h' ⟨T, t, y, rfl, hT, hy, ht⟩
      have ey : y = u := by
        have h1 : its.toArray[i]? = some u := by simpa using hu
        exact Option.some.inj (hy.symm.trans h1)
      subst ey
      refine ⟨T, rfl, hT, [.int (0 + (i : Int)) t, y], .cons ⟨t, ?_⟩ (.cons ru .nil), ht⟩
      rw [Int.zero_add]
    · intro T s' hT hge I1 st'
      obtain ⟨⟨old', he'⟩, hit', _⟩ := st'
      refine ⟨I1, ⟨T, x, rfl, hT, rfl, fun ys hy => by rw [I.tuple_inj hy hq]; exact hx⟩, ⟨⟨old', ?_⟩, hit', hne, na, na2⟩, fun b hb => ?_⟩
      · rw [Int.zero_add] at he'
        exact he'
      · have hb' : b < s.heap.objs.size := by
          rcases List.mem_cons.mp hb with z | z
          · rw [z]; exact hel
          · rw [List.mem_singleton.mp z]; exact hil
        rw [upd_ne (Nat.ne_of_lt (Nat.lt_of_lt_of_le hb' hge))]
        exact (hf b hb).1
    · rintro r s1 ⟨u', rfl, h⟩
      exact ⟨u', rfl, thn h fun _ s2 ⟨y, H', ry, I2, yy, t2, n2⟩ => ⟨y, H', I2, ry, yy, t2, n2⟩⟩
  done := by
    intro X hP hw hK hc i pins s σ H E I hf st hg
    subst hP hw hK
    obtain ⟨⟨old, he⟩, hit, hne, na, na2⟩ := st
    obtain ⟨xs, hq, hx⟩ := hg
    obtain ⟨its, rv, p, hz⟩ := I.tuple hq
    have W := GoesN.enumFrom (prog := X.prog) (w := X.w) (A := X.A) (elts := elts) (x1 := kk) (pos := tpos) 0 (Draws.tuple (A := X.A.in1) (show X.A.in1.handled = none from I.ok.hd hc) it a na its.toArray) e hne (by simp [hne, na2.symm]) (by simp)
    have hl : its.toArray.size = i := by
      have := rv.length
      rw [List.size_toArray]
      omega
    refine W.stops s (fun s' => Inv X pins σ H s') E (by rw [hl]; exact ⟨⟨old, by simpa using he⟩, hit, p⟩) fun h' tk hk _ => ?_
    exact I.turnedL (t' := tk) (ch := [e, it]) hk hf
  self := fun A i s Q E st h => let ⟨⟨_, he⟩, _⟩ := st; wpAny_pyIter_enum he h

def iEnumT (K : PySem.W.Frag) (ta : TA) : TI := fun σ H R => ta σ H fun vs H1 => ∃ a xs, vs = [.ref a] ∧ SqT K H1 a xs ∧ R (IteT K a) H1
theorem pi_enumT {X : Cx} {e : Expr} {ta : TA} {p pos tpos : Pos} {elts : List Expr} {kk : Nat} (hg : Gl X "enumerate") (hm : X.mg "enumerate" = none) (ha : PA X [e] ta) (hs : starEach [e] X.env = [(false, eval e X.env)] := by rfl) :
    PI X (.Tuple elts kk tpos) (.Call (.Name "enumerate" p) [e] [] pos) (iEnumT X.K ta) := by
  refine ⟨fun pins s σ H R I h => ?_⟩
  refine Call_ (ld_blt I hg hm boot_enumerate (PyProof.Rows.callWith_type1 (thn (ha.run pos pins s σ H _ I h) fun us s1 ⟨vs, H1, I1, r1, q1⟩ => ?_) hs rfl))
  obtain ⟨a, xs, rfl, hq, q⟩ := q1
  obtain ⟨u, rfl, ru⟩ := vals1 r1
  cases ru
  obtain ⟨its, rv, pt, hz⟩ := I1.tuple hq
  have hlt : a < s1.heap.objs.size := by
    obtain ⟨o, ho, _⟩ := pt
    exact Heap.lt_size ho
  refine call_enumT (items := its.toArray) pt fun h' he hit hk => wpAny_pyIter_enum he ?_
  have I2 : Inv X pins σ H1 { s1 with heap := h' } := I1.kept (t' := s1.toks) hk
  refine ⟨s1.heap.objs.size + 1, [s1.heap.objs.size + 1, s1.heap.objs.size], _, _, H1, rfl, I2, turn_enumT a (s1.heap.objs.size + 1) s1.heap.objs.size, ⟨⟨.none, he⟩, hit, Nat.succ_ne_self _, Nat.ne_of_lt hlt, Nat.ne_of_lt (Nat.lt_succ_of_lt hlt)⟩, fun b hb => ?_, q⟩
  have hle : s1.heap.objs.size ≤ b := by
    rcases List.mem_cons.mp hb with z | z
    · rw [z]; exact Nat.le_add_right _ _
    · rw [List.mem_singleton.mp z]; exact Nat.le_refl _
  exact I1.fpOk hle (I1.hok.fresh hle)

/-! ### zip(t, u, v) of three tuples -/
def ItZ3 (K : PySem.W.Frag) (a b c : Addr) : It :=
  ⟨fun i H => ∃ (xs ys zs : List V) (x y z : V), SqT K H a xs ∧ SqT K H b ys ∧ SqT K H c zs ∧ xs[i]? = some x ∧ ys[i]? = some y ∧ zs[i]? = some z,
   fun i H v H' => ∃ T x y z, v = .ref T ∧ H T = none ∧ H' = upd H T (.tup [x, y, z]) ∧ (∀ xs, SqT K H a xs → xs[i]? = some x) ∧ (∀ ys, SqT K H b ys → ys[i]? = some y) ∧ (∀ zs, SqT K H c zs → zs[i]? = some z),
   fun i H => ∃ xs ys zs : List V, SqT K H a xs ∧ SqT K H b ys ∧ SqT K H c zs ∧ min (min xs.length ys.length) zs.length = i⟩

structure Apart3 (n a b c : Addr) : Prop where
  la : a < n
  lb : b < n
  lc : c < n

theorem sep3 {n a b c : Addr} (D : Apart3 n a b c) : ZipSep3 (n + 5) (n + 3) (n + 4) n (n + 1) (n + 2) [n, a] [n + 1, b] [n + 2, c] :=
  zip_sep3 (fp1 := [a]) (fp2 := [b]) (fp3 := [c]) (fun z hz => by rw [List.mem_singleton.mp hz]; exact D.la) (fun z hz => by rw [List.mem_singleton.mp hz]; exact D.lb) (fun z hz => by rw [List.mem_singleton.mp hz]; exact D.lc)

/-- the records of the zip -/
def Z3 (n a b c : Addr) (i : Nat) (h : Heap) : Prop :=
  IsZip h (n + 5) (n + 3) (n + 4) .none ∧ IsTupOf3 h (n + 3) (.ref n) (.ref (n + 1)) (.ref (n + 2)) ∧ (∃ a1 a2 a3, IsTupOf3 h (n + 4) a1 a2 a3) ∧ h.IsTupleIter n a i ∧ h.IsTupleIter (n + 1) b i ∧ h.IsTupleIter (n + 2) c i

theorem ti_ob {h : Heap} {it t : Addr} {i : Nat} (x : h.IsTupleIter it t i) : ∃ o, h.get? it = some o ∧ ∀ v, o.data ≠ .cell v := by
  obtain ⟨o, ho, _, hd⟩ := x
  exact ⟨o, ho, fun v q => by rw [hd] at q; cases q⟩

theorem mem6 {n b : Addr} (hb : b ∈ [n + 5, n + 3, n + 4, n, n + 1, n + 2]) : b = n + 5 ∨ b = n + 3 ∨ b = n + 4 ∨ b = n ∨ b = n + 1 ∨ b = n + 2 := by simpa using hb

theorem turn_zip3 {P : Program} {w : World} {K : PySem.W.Frag} {elts : List Expr} {kk : Nat} {tpos : Pos} {n a b c : Addr} (D : Apart3 n a b c) :
    Turn P w K (.Tuple elts kk tpos) (ItZ3 K a b c) [n + 5, n + 3, n + 4, n, n + 1, n + 2] (n + 5) (Z3 n a b c) where
  mem := by simp
  obj := fun i h ⟨z, t, ⟨a1, a2, a3, o⟩, i1, i2, i3⟩ d hb => by
    rcases mem6 hb with e | e | e | e | e | e <;> subst e
    · exact ⟨_, z, fun v q => nomatch q⟩
    · exact ⟨_, t, fun v q => nomatch q⟩
    · exact ⟨_, o, fun v q => nomatch q⟩
    · exact ti_ob i1
    · exact ti_ob i2
    · exact ti_ob i3
  keep := fun i h h' ⟨z, t, ⟨a1, a2, a3, o⟩, i1, i2, i3⟩ k =>
    ⟨k _ (by simp) _ z, k _ (by simp) _ t, ⟨a1, a2, a3, k _ (by simp) _ o⟩, i1.at fun o q => k _ (by simp) o q, i2.at fun o q => k _ (by simp) o q, i3.at fun o q => k _ (by simp) o q⟩
  item := by
    intro X hP hw hK hc i pins s σ H E I hf st hg
    subst hP hw hK
    obtain ⟨z, t, o3, i1, i2, i3⟩ := id st
    obtain ⟨xs, ys, zs, x, y, v, hqx, hqy, hqz, hx, hy, hz⟩ := hg
    obtain ⟨its1, rv1, p1, _⟩ := I.tuple hqx
    obtain ⟨its2, rv2, p2, _⟩ := I.tuple hqy
    obtain ⟨its3, rv3, p3, _⟩ := I.tuple hqz
    obtain ⟨u1, hu1, ru1⟩ := rv1.get hx
    obtain ⟨u2, hu2, ru2⟩ := rv2.get hy
    obtain ⟨u3, hu3, ru3⟩ := rv3.get hz
    have k1 : its1.toArray[i]? = some u1 := by simpa using hu1
    have k2 : its2.toArray[i]? = some u2 := by simpa using hu2
    have k3 : its3.toArray[i]? = some u3 := by simpa using hu3
    have l1 : i < its1.toArray.size := (Array.getElem?_eq_some_iff.mp k1).1
    have l2 : i < its2.toArray.size := (Array.getElem?_eq_some_iff.mp k2).1
    have l3 : i < its3.toArray.size := (Array.getElem?_eq_some_iff.mp k3).1
    have hh : X.A.in1.handled = none := I.ok.hd hc
    have W := GoesN.zip3 (prog := X.prog) (w := X.w) (A := X.A) (elts := elts) (x1 := kk) (pos := tpos) (sep3 D)
      (Draws.tuple (A := X.A.in1) hh n a (Nat.ne_of_lt D.la) its1.toArray) (Draws.tuple (A := X.A.in1) hh (n + 1) b (Nat.ne_of_lt (Nat.lt_succ_of_lt D.lb)) its2.toArray) (Draws.tuple (A := X.A.in1) hh (n + 2) c (Nat.ne_of_lt (Nat.lt_succ_of_lt (Nat.lt_succ_of_lt D.lc))) its3.toArray)
    have hlt : ∀ d ∈ [n + 5, n + 3, n + 4, n, n + 1, n + 2], d < s.heap.objs.size := fun d hd => by
      rcases mem6 hd with e | e | e | e | e | e <;> subst e
      · exact Heap.lt_size z
      · exact Heap.lt_size t
      · obtain ⟨a1, a2, a3, o⟩ := o3
        exact Heap.lt_size o
      · obtain ⟨_, q, _⟩ := i1; exact Heap.lt_size q
      · obtain ⟨_, q, _⟩ := i2; exact Heap.lt_size q
      · obtain ⟨_, q, _⟩ := i3; exact Heap.lt_size q
    refine thn (goes_new (ys := [x, y, v]) (ch := [n + 5, n + 3, n + 4, n, n + 1, n + 2]) W (Nat.lt_min.mpr ⟨Nat.lt_min.mpr ⟨l1, l2⟩, l3⟩) ⟨z, t, o3, ⟨i1, p1⟩, ⟨i2, p2⟩, ⟨i3, p3⟩⟩ I (fun d hd => ?_) hf ?_ (by show 3 ≤ sizeLine; decide)
      (Q := fun q H' s2 => Inv X pins σ H' s2 ∧ (ItZ3 X.K a b c).yld i H q H' ∧ Z3 n a b c (i + 1) s2.heap ∧ ∀ d ∈ [n + 5, n + 3, n + 4, n, n + 1, n + 2], H' d = none) ?_) ?_
    · have e : d = n + 5 ∨ d = n + 4 ∨ d = n ∨ d = n + 1 ∨ d = n + 2 := by simpa using hd
      rcases e with e | e | e | e | e <;> subst e <;> simp
    · rintro q h' ⟨T, y1, y2, y3, rfl, hT, e1, e2, e3, ht⟩
      cases (Option.some.inj (e1.symm.trans k1))
      cases (Option.some.inj (e2.symm.trans k2))
      cases (Option.some.inj (e3.symm.trans k3))
      exact ⟨T, rfl, hT, [_, _, _], .cons ru1 (.cons ru2 (.cons ru3 .nil)), ht⟩
    · intro T s' hT hge I1 st'
      obtain ⟨z', t', o', ⟨j1, _⟩, ⟨j2, _⟩, ⟨j3, _⟩⟩ := st'
      refine ⟨I1, ⟨T, x, y, v, rfl, hT, rfl, fun l hl => by rw [I.tuple_inj hl hqx]; exact hx, fun l hl => by rw [I.tuple_inj hl hqy]; exact hy, fun l hl => by rw [I.tuple_inj hl hqz]; exact hz⟩, ⟨z', t', o', j1, j2, j3⟩, fun d hd => ?_⟩
      rw [upd_ne (Nat.ne_of_lt (Nat.lt_of_lt_of_le (hlt d hd) hge))]
      exact (hf d hd).1
    · rintro r s1 ⟨u', rfl, h⟩
      exact ⟨u', rfl, thn h fun _ s2 ⟨y, H', ry, I2, yy, t2, n2⟩ => ⟨y, H', I2, ry, yy, t2, n2⟩⟩
  done := by
    intro X hP hw hK hc i pins s σ H E I hf st hg
    subst hP hw hK
    obtain ⟨z, t, o3, i1, i2, i3⟩ := id st
    obtain ⟨xs, ys, zs, hqx, hqy, hqz, hl⟩ := hg
    obtain ⟨its1, rv1, p1, _⟩ := I.tuple hqx
    obtain ⟨its2, rv2, p2, _⟩ := I.tuple hqy
    obtain ⟨its3, rv3, p3, _⟩ := I.tuple hqz
    have hh : X.A.in1.handled = none := I.ok.hd hc
    have W := GoesN.zip3 (prog := X.prog) (w := X.w) (A := X.A) (elts := elts) (x1 := kk) (pos := tpos) (sep3 D)
      (Draws.tuple (A := X.A.in1) hh n a (Nat.ne_of_lt D.la) its1.toArray) (Draws.tuple (A := X.A.in1) hh (n + 1) b (Nat.ne_of_lt (Nat.lt_succ_of_lt D.lb)) its2.toArray) (Draws.tuple (A := X.A.in1) hh (n + 2) c (Nat.ne_of_lt (Nat.lt_succ_of_lt (Nat.lt_succ_of_lt D.lc))) its3.toArray)
    have hn : min (min its1.toArray.size its2.toArray.size) its3.toArray.size = i := by
      have e1 := rv1.length
      have e2 := rv2.length
      have e3 := rv3.length
      rw [List.size_toArray, List.size_toArray, List.size_toArray, ← e1, ← e2, ← e3]
      exact hl
    refine W.stops s (fun s' => Inv X pins σ H s') E (by rw [hn]; exact ⟨z, t, o3, ⟨i1, p1⟩, ⟨i2, p2⟩, ⟨i3, p3⟩⟩) fun h' tk hk _ => ?_
    refine I.turnedL (t' := tk) (ch := [n + 5, n + 3, n + 4, n, n + 1, n + 2]) (fun d o hd q => hk d o (fun hm => hd ?_) q) hf
    have e : d = n + 5 ∨ d = n + 4 ∨ d = n ∨ d = n + 1 ∨ d = n + 2 := by simpa using hm
    rcases e with e | e | e | e | e <;> subst e <;> simp
  self := fun A i s Q E st h => wpAny_pyIter_zip st.1 h

def iZip3 (K : PySem.W.Frag) (ta : TA) : TI := fun σ H R => ta σ H fun vs H1 => ∃ a b c xs ys zs, vs = [.ref a, .ref b, .ref c] ∧ SqT K H1 a xs ∧ SqT K H1 b ys ∧ SqT K H1 c zs ∧ R (ItZ3 K a b c) H1
theorem pi_zip3 {X : Cx} {e e2 e3 : Expr} {ta : TA} {p pos tpos : Pos} {elts : List Expr} {kk : Nat} (hg : Gl X "zip") (hm : X.mg "zip" = none) (ha : PA X [e, e2, e3] ta)
    (hs : starEach [e, e2, e3] X.env = (false, eval e X.env) :: starEach [e2, e3] X.env := by rfl) (hpl : (backTo pos (starEach [e2, e3] X.env)).any (·.1) = false := by rfl) :
    PI X (.Tuple elts kk tpos) (.Call (.Name "zip" p) [e, e2, e3] [] pos) (iZip3 X.K ta) := by
  refine ⟨fun pins s σ H R I h => ?_⟩
  refine Call_ (ld_blt I hg hm PyProof.Rows.boot_zip (PyProof.Rows.callWith_type1 (thn (ha.run pos pins s σ H _ I h) fun us s1 ⟨vs, H1, I1, r1, q1⟩ => ?_) hs hpl))
  obtain ⟨a, b, c, xs, ys, zs, rfl, hqx, hqy, hqz, q⟩ := q1
  cases r1 with
  | cons r rr =>
    cases rr with
    | cons r' rr =>
      obtain ⟨u3, rfl, r3⟩ := vals1 rr
      cases r
      cases r'
      cases r3
      obtain ⟨its1, rv1, p1, _⟩ := I1.tuple hqx
      obtain ⟨its2, rv2, p2, _⟩ := I1.tuple hqy
      obtain ⟨its3, rv3, p3, _⟩ := I1.tuple hqz
      have D : Apart3 s1.heap.objs.size a b c := by
        obtain ⟨_, h1, _⟩ := p1
        obtain ⟨_, h2, _⟩ := p2
        obtain ⟨_, h3, _⟩ := p3
        exact ⟨Heap.lt_size h1, Heap.lt_size h2, Heap.lt_size h3⟩
      refine zip_begins3 (begins_tuple a its1.toArray) (begins_tuple b its2.toArray) (begins_tuple c its3.toArray) p1 p2 p3 fun h' hz hTI hTO h1 h2 h3 hsz hk => wpAny_pyIter_zip hz ?_
      have I2 : Inv X pins σ H1 { s1 with heap := h' } := I1.kept (t' := s1.toks) hk
      refine ⟨s1.heap.objs.size + 5, [s1.heap.objs.size + 5, s1.heap.objs.size + 3, s1.heap.objs.size + 4, s1.heap.objs.size, s1.heap.objs.size + 1, s1.heap.objs.size + 2], _, _, H1, rfl, I2, turn_zip3 D, ⟨hz, hTI, ⟨_, _, _, hTO⟩, ⟨_, h1, rfl, rfl⟩, ⟨_, h2, rfl, rfl⟩, ⟨_, h3, rfl, rfl⟩⟩, fun d hd => ?_, q⟩
      have hle : s1.heap.objs.size ≤ d := by
        rcases mem6 hd with e | e | e | e | e | e <;> subst e
        · exact Nat.le_add_right _ _
        · exact Nat.le_add_right _ _
        · exact Nat.le_add_right _ _
        · exact Nat.le_refl _
        · exact Nat.le_add_right _ _
        · exact Nat.le_add_right _ _
      exact I1.fpOk hle (I1.hok.fresh hle)

/-! ### the forms one uses: over any walk of n turns -/
theorem for_gen {J : It} {n : Nat} {g : TG} {tb : TS} {D : Ends} {σ : L2.St} {H : Hp} (Pv : Nat → L2.St → Hp → Prop) (h0 : Pv 0 σ H) (hgo : ∀ i σ H, i < n → Pv i σ H → J.go i H) (hst : ∀ σ H, Pv n σ H → J.stop n H)
    (hs : ∀ i x σ H H', i < n → Pv i σ H → J.yld i H x H' → g x σ H' fun σ2 H2 => tb { D with nx := Pv (i + 1), ct := Pv (i + 1), bk := D.nx } σ2 H2) (hd : ∀ σ H, Pv n σ H → D.nx σ H) :
    ∃ W : Nat → Nat → L2.St → Hp → Prop, (∃ m, W 0 m σ H) ∧ ∀ i m σ H, W i m σ H →
      (J.stop i H ∧ D.nx σ H) ∨ (J.go i H ∧ ∃ N : L2.St → Hp → Prop, (∀ σ' H', N σ' H' → ∃ m', m' < m ∧ W (i + 1) m' σ' H') ∧ ∀ x H', J.yld i H x H' → g x σ H' fun σ2 H2 => tb { D with nx := N, ct := N, bk := D.nx } σ2 H2) := by
  refine ⟨fun i m σ H => m = n - i ∧ i ≤ n ∧ Pv i σ H, ⟨n, rfl, Nat.zero_le _, h0⟩, ?_⟩
  rintro i m σ H ⟨rfl, hi, p⟩
  by_cases hlt : i < n
  · exact .inr ⟨hgo i σ H hlt p, Pv (i + 1), fun σ' H' p' => ⟨n - (i + 1), by omega, rfl, hlt, p'⟩, fun x H' y => hs i x σ H H' hlt p y⟩
  · have e : i = n := by omega
    subst e
    exact .inl ⟨hst σ H p, hd σ H p⟩
theorem lc_gen {J : It} {n : Nat} {g : TG} {tt : TT} {te : TE} {vs : List Nat} {σ : L2.St} {H1 : Hp} {D : Addr} {Qd : Hp → Prop} (Pv : Nat → Hp → Prop) (h0 : Pv 0 (upd H1 D (.lst []))) (hgo : ∀ i H, i < n → Pv i H → J.go i H) (hst : ∀ H, Pv n H → J.stop n H)
    (hs : ∀ i x H H', i < n → Pv i H → J.yld i H x H' → g x (wipe σ vs) H' fun σ2 H2 => wipe σ2 vs = wipe σ vs ∧ tt σ2 H2 fun b H3 =>
      if b = true then te σ2 H3 fun y H4 => ∃ acc, H4 D = some (.lst acc) ∧ acc.length < sizeLine ∧ Pv (i + 1) (upd H4 D (.lst (acc ++ [y]))) else Pv (i + 1) H3) (hd : ∀ H, Pv n H → Qd H) :
    ∃ W : Nat → Nat → Hp → Prop, (∃ m, W 0 m (upd H1 D (.lst []))) ∧ ∀ i m H, W i m H →
      (J.stop i H ∧ Qd H) ∨ (J.go i H ∧ ∃ Nx : Hp → Prop, (∀ H', Nx H' → ∃ m', m' < m ∧ W (i + 1) m' H') ∧ ∀ x H', J.yld i H x H' → g x (wipe σ vs) H' fun σ2 H2 => wipe σ2 vs = wipe σ vs ∧ tt σ2 H2 fun b H3 =>
        if b = true then te σ2 H3 fun y H4 => ∃ acc, H4 D = some (.lst acc) ∧ acc.length < sizeLine ∧ Nx (upd H4 D (.lst (acc ++ [y]))) else Nx H3) := by
  refine ⟨fun i m H => m = n - i ∧ i ≤ n ∧ Pv i H, ⟨n, rfl, Nat.zero_le _, h0⟩, ?_⟩
  rintro i m H ⟨rfl, hi, p⟩
  by_cases hlt : i < n
  · exact .inr ⟨hgo i H hlt p, Pv (i + 1), fun H' p' => ⟨n - (i + 1), by omega, rfl, hlt, p'⟩, fun x H' y => hs i x H H' hlt p y⟩
  · have e : i = n := by omega
    subst e
    exact .inl ⟨hst H p, hd H p⟩
end DI

/-! sets of texts: the set of a comprehension, set(list), sorted(set); no more is said of them than their members -/
namespace DS
open PySem PySem.Spec PyProof.Rows L2

def txtOf (e : Int × Value) : PySem.Str := match e.2 with
  | .str x _ => x
  | _ => Str.empty
def IsTxt (w : World) (e : Int × Value) : Prop := ∃ x tk, e.2 = Value.str x tk ∧ e.1 = hashStr w x

/-- the entries l are the texts M, each once -/
structure Tells (M : List PySem.Str) (l : List (Int × Value)) : Prop where
  nd : (l.map txtOf).Nodup
  mem : ∀ x, x ∈ M ↔ x ∈ l.map txtOf
/-- the set at a, into which the texts M were put -/
def TxtSet (w : World) (h : Heap) (a : Addr) (M : List PySem.Str) : Prop :=
  ∃ o es ep t, h.get? a = some o ∧ o.ExactSet ∧ o.data = .set es ep t ∧ (∀ e ∈ es.toList, IsTxt w e) ∧ Tells M es.toList ∧
    es.size < scanBound ∧ es.size ≤ M.length ∧ t.fits es.size = true ∧ Ris t.place.toList ∧ (w.params.followText "set-order" = true ∨ t.led = true)

section
variable {P : Program} {w : World} {h h' : Heap} {a : Addr} {M : List PySem.Str}
theorem TxtSet.keep (R : TxtSet w h a M) (k : ∀ o, h.get? a = some o → h'.get? a = some o) : TxtSet w h' a M := by
  obtain ⟨o, es, ep, t, ho, r⟩ := R
  exact ⟨o, es, ep, t, k o ho, r⟩
theorem txt_elems {l : List (Int × Value)} (g : ∀ e ∈ l, IsTxt w e) : ElemsOf (strKind P w) l := fun e he => by
  obtain ⟨x, tk, h1, h2⟩ := g e he
  refine ⟨⟨x, ?_, h2⟩, ?_⟩
  · rw [h1]; exact strKind_is P w x tk
  · rw [h1]; rfl
theorem txt_is {e : Int × Value} (g : IsTxt w e) (x : PySem.Str) : (strKind P w).is x e.2 = true ↔ txtOf e = x := by
  obtain ⟨y, tk, h1, _⟩ := g
  unfold txtOf
  rw [h1]
  constructor
  · intro q
    obtain ⟨t, e⟩ := Value.isStrOf_shape (x := x) (v := .str y tk) q
    injection e with e1 _
  · intro q
    show (strKind P w).is x (.str y tk) = true
    rw [← q]
    exact strKind_is P w y tk
theorem txt_mem {l : List (Int × Value)} (g : ∀ e ∈ l, IsTxt w e) (x : PySem.Str) : x ∈ l.map txtOf ↔ ∃ e ∈ l, (strKind P w).is x e.2 = true := by
  rw [List.mem_map]
  exact ⟨fun ⟨e, he, q⟩ => ⟨e, he, (txt_is (g e he) x).2 q⟩, fun ⟨e, he, q⟩ => ⟨e, he, (txt_is (g e he) x).1 q⟩⟩
theorem fresh_txt (w : World) (h : Heap) {a : Addr} (ho : h.get? a = some { cls := .type "set", dict := none, data := .set #[] 0 (.fresh 0 0 (!w.params.followText "set-order")) }) : TxtSet w h a [] := by
  refine ⟨_, #[], 0, _, ho, ⟨rfl, rfl, rfl⟩, rfl, fun e he => by simp at he, ⟨List.nodup_nil, fun x => by simp⟩, by decide, Nat.le_refl _, by rfl, List.Pairwise.nil, ?_⟩
  show _ ∨ (!w.params.followText "set-order") = true
  cases w.params.followText "set-order"
  · exact .inr rfl
  · exact .inl rfl
end

section
variable {P : Program} {w : World} {A : Around} {E : Value → Shared → Prop} {s : Shared} {a : Addr} {M : List PySem.Str}
theorem store_tail {g : Bool → Sem Unit} (hg : ∀ (b : Bool) (s₁ : Shared) (Q' : Unit → Shared → Prop), Q' () s₁ → wpAny (model P w) A (g b) Q' E s₁)
    {o : Obj} {es : Array (Int × Value)} {ep : Nat} {t : SetTable} (ho : s.heap.get? a = some o) (hex : o.ExactSet) (hd : o.data = .set es ep t)
    {e1 : Array (Int × Value)} {t2 : SetTable} (g1 : ∀ e ∈ e1.toList, IsTxt w e) (m1 : Tells M e1.toList)
    (hb1 : e1.size < scanBound) (hl1 : e1.size ≤ M.length) (hf2 : t2.fits e1.size = true) (hr : Ris t2.place.toList) (hl : w.params.followText "set-order" = true ∨ t2.led = true) {wasDummy : Bool} {R : Option Bool → Shared → Prop}
    (hR : ∀ h', Heap.SameBut a s.heap h' → TxtSet w h' a M → R (some true) { s with heap := h' }) :
    wpAny (model P w) A (do
        storeSet a e1 t2
        if (!wasDummy && t2.tooFull) = true then do
            g (relayAll t2 e1 (SetTable.grown e1.size)).2.2
            storeSet a (relayAll t2 e1 (SetTable.grown e1.size)).1 (relayAll t2 e1 (SetTable.grown e1.size)).2.1
            pure (some true)
          else pure (some true)) R E s := by
  refine wpAny_bind (wpAny_storeSet_of ho hd ?_ (fits_of_scanBound hb1))
  have q1 := store_at (es' := e1) (t' := t2) ho hd
  have sb := Heap.SameBut.update s.heap a (Obj.putSet e1 t2)
  split
  · have pm := relayAll_perm t2 e1 (SetTable.grown e1.size)
    have a1 := relayAll_fits t2 e1 (SetTable.grown e1.size)
    have a2 := relayAll_ris t2 e1 (SetTable.grown e1.size)
    have a3 := relayAll_led t2 e1 (SetTable.grown e1.size)
    generalize relayAll t2 e1 (SetTable.grown e1.size) = Z at pm a1 a2 a3 ⊢
    obtain ⟨e2, t3, gave⟩ := Z
    dsimp only at pm a1 a2 a3 ⊢
    have hsz : e2.size = e1.size := by rw [← Array.length_toList, pm.length_eq, Array.length_toList]
    refine wpAny_bind (hg _ _ _ ?_)
    refine wpAny_bind (wpAny_storeSet_of q1 rfl ?_ (fits_of_scanBound (by rw [hsz]; exact hb1)))
    have q2 := store_at (es' := e2) (t' := t3) q1 rfl
    refine wpAny_pure (hR _ (sb.trans (Heap.SameBut.update _ a _)) ⟨_, e2, _, t3, q2, hex, rfl, fun e he => g1 e (pm.mem_iff.mp he), ⟨(pm.map txtOf).symm.nodup m1.nd, fun x => (m1.mem x).trans (pm.map txtOf).mem_iff.symm⟩, by rw [hsz]; exact hb1, by rw [hsz]; exact hl1, a1, a2, ?_⟩)
    exact hl.imp id fun z => by rw [a3]; exact z
  · exact wpAny_pure (hR _ sb ⟨_, e1, _, t2, q1, hex, rfl, g1, m1, hb1, hl1, hf2, hr, hl⟩)

theorem add_hashed {x : PySem.Str} {tk : Tok} {Q : Bool → Shared → Prop} (R : TxtSet w s.heap a M) (room : M.length + 1 < scanBound)
    (hQ : ∀ b h', Heap.SameBut a s.heap h' → TxtSet w h' a (M ++ [x]) → Q b { s with heap := h' }) :
    wpAny (model P w) A (setAddHashed a (.str x tk) ((strKind P w).hash x)) Q E s := by
  obtain ⟨o, es, ep, t, ho, hex, hd, g, hm, hb, hn, hf, hr, hl⟩ := R
  have hkey : (strKind P w).is x (.str x tk) = true := strKind_is P w x tk
  have hsc : (Value.str x tk).scannable = true := rfl
  have hel : ElemsOf (strKind P w) es.toList := txt_elems g
  unfold setAddHashed setAddHashedIn
  refine wpAny_holding (wpAny_bind (wpAny_setState_of ho hd hf ?_))
  dsimp only
  rw [byScan_of hsc hb hel]
  simp only [↓reduceIte]
  unfold setAddByScan
  refine wpAny_bind ?_
  refine wpAny_bind (wpAny_rule ?_)
  refine wpAny_bind (wpAny_setScan_of hkey ho hd hf hel ?_)
  cases hfi : List.findIdx? (fun e => (strKind P w).is x e.2) es.toList with
  | some j =>
    dsimp only
    obtain ⟨hj, pj, _⟩ := List.findIdx?_eq_some_iff_getElem.mp hfi
    have hx : x ∈ M := (hm.mem x).2 ((txt_mem (P := P) g x).2 ⟨es.toList[j], List.getElem_mem hj, pj⟩)
    refine wpAny_pure (wpAny_pure (hQ false s.heap (Heap.SameBut.refl a s.heap) ⟨o, es, ep, t, ho, hex, hd, g, ⟨hm.nd, fun i => ?_⟩, hb, ?_, hf, hr, hl⟩))
    · rw [List.mem_append, ← hm.mem i]
      exact ⟨fun z => z.elim id fun e => by rw [List.mem_singleton.mp e]; exact hx, .inl⟩
    · rw [List.length_append]
      exact Nat.le_add_right_of_le hn
  | none =>
    dsimp only
    have hgw : ∀ (b : Bool) {s₁ : Shared} {Q' : Unit → Shared → Prop}, Q' () s₁ → wpAny (model P w) A (match b with | true => rule "set.scan.the-table-gave-way" | false => pure ()) Q' E s₁ :=
      fun b s₁ Q' q => by cases b <;> first | exact wpAny_pure q | exact wpAny_rule q
    have pm := layNew_perm t es ((strKind P w).hash x) (.str x tk)
    have a1 := layNew_fits t es ((strKind P w).hash x) (.str x tk)
    have a2 := layNew_ris t es ((strKind P w).hash x) (.str x tk) hr
    have a3 := layNew_led t es ((strKind P w).hash x) (.str x tk)
    generalize layNew t es ((strKind P w).hash x) (.str x tk) = Z at pm a1 a2 a3 ⊢
    obtain ⟨e1, t1, wasDummy, gave⟩ := Z
    dsimp only at pm a1 a2 a3 ⊢
    rw [Array.toList_push] at pm
    have g1 : ∀ e ∈ e1.toList, IsTxt w e := fun e he => by
      rcases List.mem_append.mp (pm.mem_iff.mp he) with z | z
      · exact g e z
      · rw [List.mem_singleton.mp z]; exact ⟨x, tk, rfl, rfl⟩
    have nin : ¬ x ∈ es.toList.map txtOf := fun q => by
      obtain ⟨e, he, q2⟩ := (txt_mem (P := P) g x).1 q
      have z := List.findIdx?_eq_none_iff.mp hfi e he
      rw [q2] at z
      cases z
    have m1 : Tells (M ++ [x]) e1.toList := ⟨by
      refine (pm.map txtOf).symm.nodup ?_
      rw [List.map_append]
      exact nd_snoc hm.nd nin, fun i => by
      rw [(pm.map txtOf).mem_iff, List.map_append, List.mem_append, List.mem_append, hm.mem i]
      exact Iff.rfl⟩
    have hsz : e1.size = es.size + 1 := by rw [← Array.length_toList, pm.length_eq, List.length_append, Array.length_toList]; rfl
    have hle : e1.size ≤ (M ++ [x]).length := by rw [hsz, List.length_append]; exact Nat.add_le_add_right hn 1
    have hb1 : e1.size < scanBound := by rw [hsz]; omega
    have hled : w.params.followText "set-order" = true ∨ t1.led = true := hl.imp id fun z => by rw [a3]; exact z
    refine wpAny_bind (hgw _ ?_)
    split
    · refine wpAny_bind ?_
      rw [hashByValue_scannable 8 hsc]
      refine wpAny_pure ?_
      refine store_tail ?_ ho hex hd g1 m1 hb1 hle ?_ ?_ ?_ ?_
      · intro b s₁ Q' q; cases b <;> first | exact wpAny_pure q | exact wpAny_rule q
      · first | (split <;> first | exact a1 | exact SetTable.fits_plain_off a1) | exact a1
      · first | (split <;> exact a2) | exact a2
      · first | (split <;> exact hled) | exact hled
      · intro h' sb r; dsimp only; exact wpAny_pure (hQ true h' sb r)
    · refine wpAny_bind (wpAny_pure ?_)
      simp only [↓reduceIte]
      refine store_tail ?_ ho hex hd g1 m1 hb1 hle a1 a2 hled ?_
      · intro b s₁ Q' q; cases b <;> first | exact wpAny_pure q | exact wpAny_rule q
      · intro h' sb r; dsimp only; exact wpAny_pure (hQ true h' sb r)

/-- s.add(x) -/
theorem call_add {x : PySem.Str} {tk : Tok} {Q : Value → Shared → Prop} (R : TxtSet w s.heap a M) (room : M.length + 1 < scanBound)
    (hQ : ∀ h', Heap.SameBut a s.heap h' → TxtSet w h' a (M ++ [x]) → Q .none { s with heap := h', toks := s.toks + 1 }) :
    wpAny (model P w) A (call (.builtin "set.add") [.ref a, .str x tk]) Q E s := by
  obtain ⟨o, es, ep, t, ho, hex, r⟩ := id R
  refine wpAny_call_entry F.slot_set_add ⟨o, ho, hex.1⟩ F.entry_set_add ?_ (F.args_set_add_2 _ _)
  unfold Builtin.«set.add» Builtin.Frozenset.oneOther
  simp only [List.isEmpty_nil, bind_assoc]
  unfold Builtin.Frozenset.addrOf setAdd
  refine wpAny_bind (wpAny_pure ?_)
  try dsimp only
  refine wpAny_bind (wpAny_pure ?_)
  try dsimp only
  refine wpAny_bind ?_
  refine wpAny_holding ?_
  refine wpAny_bind ((strKind P w).pyHash (strKind_is P w x tk) ?_)
  refine add_hashed (s := { s with toks := s.toks + 1 }) R room fun b h' sb r => ?_
  show wpAny _ _ (ret Value.none) _ _ _
  exact wpAny_pure ⟨_, rfl, hQ h' sb r⟩

/-- sorted(s) -/
theorem sorted_txt {Q : Value → Shared → Prop} (R : TxtSet w s.heap a M) (hh : A.handled = none) (hu : A.units + 4 < cLine)
    (hQ : ∀ s' p (out : List Value) (c : Nat) (xs : List PySem.Str), (∀ b o, s.heap.get? b = some o → s'.heap.get? b = some o) → s'.gens = s.gens → s'.os = s.os → s.heap.objs.size ≤ p →
      s'.heap.get? p = some (seqObj "list" out.toArray c) → Vals (xs.map V.str) out → xs.length ≤ sizeLine → (∀ x, x ∈ xs ↔ x ∈ M) → xs.length ≤ M.length → xs.Nodup → Q (.ref p) s') :
    wpAny (model P w) A (call (.builtin "sorted") [.ref a]) Q E s := by
  obtain ⟨o, es, ep, t, ho, hex, hd, g, hm, hb, hn, hf, hr, hl⟩ := R
  refine Calls.call_function_entry kind_sorted plain_sorted entry_sorted (args_sorted1 _) ?_
  unfold Builtin.«sorted»
  refine wpAny_bind (m := checkCount "sorted" 1 1 _) (wpAny_pure ?_)
  refine wpAny_bind (collect_set (A := A.in1) hh ⟨o, ho, hex.1, hd⟩ hf hb hr hl fun s1 vs k1 hz g1 o1 pm => ?_)
  have hvl : vs.length = es.size := by rw [pm.length_eq, List.length_map, Array.length_toList]
  have hline : vs.length ≤ sizeLine := by rw [hvl]; exact fits_of_scanBound hb
  have tx : ∀ v ∈ vs, ∃ e ∈ es.toList, ∃ tk, v = Value.str (txtOf e) tk := fun v hv => by
    obtain ⟨e, he, rfl⟩ := List.mem_map.mp (pm.mem_iff.mp hv)
    obtain ⟨x, tk, h1, _⟩ := g e he
    refine ⟨e, he, tk, ?_⟩
    unfold txtOf
    rw [h1]
  refine wpAny_bind (wpAny_newList ?_ hline)
  have hoL : (s1.heap.push (seqObj "list" vs.toArray 0)).get? s1.heap.objs.size = some (seqObj "list" vs.toArray 0) := Heap.get?_push_size _ rfl
  -- the texts that the values stand for
  have each : ∀ l : List Value, (∀ v ∈ l, ∃ e ∈ es.toList, ∃ tk, v = Value.str (txtOf e) tk) → PySem.W.EachIs (fun v (x : PySem.Str) => ∃ tk, v = Value.str x tk) l (l.map fun v => match v with | .str x _ => x | _ => Str.empty) := by
    intro l
    induction l with
    | nil => intro _; exact .nil
    | cons v r ih =>
      intro hv
      refine .cons ?_ (ih fun u hu => hv u (List.mem_cons_of_mem _ hu))
      obtain ⟨e, _, tk, rfl⟩ := hv v List.mem_cons_self
      exact ⟨tk, rfl⟩
  have ev := each vs tx
  generalize hbs : vs.map (fun v => match v with | .str x _ => x | _ => Str.empty) = bs at ev
  have hbl : bs.length = vs.length := by rw [← hbs, List.length_map]
  have mb : ∀ x, x ∈ bs ↔ x ∈ M := fun x => by
    rw [hm.mem x, ← hbs, List.mem_map, List.mem_map]
    constructor
    · rintro ⟨v, hv, q⟩
      obtain ⟨e, he, tk, rfl⟩ := tx v hv
      exact ⟨e, he, q⟩
    · rintro ⟨e, he, q⟩
      obtain ⟨y, tk, h1, _⟩ := g e he
      refine ⟨e.2, pm.mem_iff.mpr (List.mem_map_of_mem he), ?_⟩
      rw [← q]
      unfold txtOf
      rw [h1]
  have er : PySem.W.EachIs (fun v (x : PySem.Str) => ∃ as, Reads (PySem.W.sortingHeap (s1.heap.push (seqObj "list" vs.toArray 0)) s1.heap.objs.size vs) v (.str x) as) vs bs := ev.mono fun v x ⟨tk, e⟩ => ⟨[], by rw [e]; exact .str _ _⟩
  have hal : PySem.W.AllAlike (bs.map PyData.str) := PySem.W.AllAlike.of fun _ _ => rfl
  have S := PySem.W.SortsAt.data (prog := P) (w := w) (A := A.in1.in1) (s := { s1 with heap := PySem.W.sortingHeap (s1.heap.push (seqObj "list" vs.toArray 0)) s1.heap.objs.size vs })
    (PySem.W.each_map (R := fun v d => ∃ as, Reads (PySem.W.sortingHeap (s1.heap.push (seqObj "list" vs.toArray 0)) s1.heap.objs.size vs) v d as) PyData.str er) hal (.others fun b => ⟨(fun q => nomatch q), fun xs q => nomatch q⟩) (fun d hd' => by
      obtain ⟨x, _, rfl⟩ := List.mem_map.mp hd'
      show A.units + 1 + 1 + 0 < cLine
      omega)
  refine wpAny_bind (wpAny_holding (wpAny_call_entry slot_list_sort ⟨_, hoL, rfl⟩ entry_list_sort (PySem.W.list_sort_vals (s := { s1 with heap := s1.heap.push (seqObj "list" vs.toArray 0) }) hoL S hline ⟨_, rfl, ?_⟩) (args_list_sort _)))
  have out := PySem.W.sortVals_data (R := fun v (x : PySem.Str) => ∃ tk, v = Value.str x tk) false ev er hal
  generalize hsv : PySem.W.sortVals _ false vs vs = sv at out ⊢
  obtain ⟨c, hc⟩ := sortedHeap_at (vs := vs) (out := sv.toArray) hoL
  have vals : ∀ {l : List Value} {m : List PySem.Str}, PySem.W.EachIs (fun v (x : PySem.Str) => ∃ tk, v = Value.str x tk) l m → Vals (m.map V.str) l := by
    intro l m e
    induction e with
    | nil => exact .nil
    | cons h _ ih => exact .cons h ih
  refine wpAny_pure ⟨_, rfl, hQ _ s1.heap.objs.size sv c _ (fun b u e => ?_) g1 o1 hz hc (vals out) ?_ (fun x => ?_) ?_ ?_⟩
  · have q := k1 b u e
    have hlt := Heap.lt_size q
    show (sortedHeap (s1.heap.push (seqObj "list" vs.toArray 0)) s1.heap.objs.size vs sv.toArray).get? b = some u
    rw [sortedHeap_old (Nat.ne_of_lt hlt) (by rw [size_push']; exact Nat.lt_succ_of_lt hlt)]
    exact Heap.get?_push_of_some _ q
  · rw [(List.mergeSort_perm bs _).length_eq, hbl]
    exact hline
  · rw [(List.mergeSort_perm bs _).mem_iff, mb x]
  · rw [(List.mergeSort_perm bs _).length_eq, hbl, hvl]
    exact hn
  · refine (List.mergeSort_perm bs _).symm.nodup ?_
    rw [← hbs]
    refine (pm.map _).symm.nodup ?_
    rw [List.map_map]
    exact hm.nd
end

/-! ### as tracked things -/
def SetTO (w : World) (a : Addr) (M : List PySem.Str) : HO := .ext fun h => TxtSet w h a M
theorem setTO_new {w : World} {P : Program} {H : Hp} {h : Heap} {a : Addr} {M : List PySem.Str} (R : TxtSet w h a M) : ObjOk P w H h a (SetTO w a M) := by
  have ⟨o, _, _, _, ho, _⟩ := R
  exact ⟨R, ⟨o, ho⟩, fun h1 h2 p k => TxtSet.keep p k⟩
theorem newSet_txt {P : Program} {w : World} {A : Around} {E : Value → Shared → Prop} {s : Shared} {Q : Value → Shared → Prop} (h : Q (.ref s.heap.objs.size) { s with heap := s.heap.push { cls := .type "set", dict := none, data := .set #[] 0 (.fresh 0 0 (!w.params.followText "set-order")) } }) :
    wpAny (model P w) A (newSet (.type "set")) Q E s := PpSet.newSet_ok h
section
variable {X : Cx}
theorem setTO_get {pins : List (Addr × Obj)} {σ : L2.St} {H : Hp} {s : Shared} {a : Addr} {M : List PySem.Str} (I : Inv X pins σ H s) (ha : H a = some (SetTO X.w a M)) : TxtSet X.w s.heap a M := (I.hok a _ ha).1
theorem addT_ok {pins : List (Addr × Obj)} {σ : L2.St} {H : Hp} {s : Shared} {E : Value → Shared → Prop} {D : Addr} {M : List PySem.Str} {x : PySem.Str} {tk : Tok} {Q : Value → Shared → Prop} (I : Inv X pins σ H s) (hD : H D = some (SetTO X.w D M)) (room : M.length + 1 < scanBound)
    (h : ∀ s', Inv X pins σ (upd H D (SetTO X.w D (M ++ [x]))) s' → Q .none s') : wpAny (model X.prog X.w) X.A (call (.builtin "set.add") [.ref D, .str x tk]) Q E s := by
  refine call_add (setTO_get I hD) room fun h' sb new => ?_
  have he : ∃ u, h'.get? D = some u := by
    have ⟨o, _, _, _, ho, _⟩ := new
    exact ⟨o, ho⟩
  exact h _ (I.write (e := D) (t' := s.toks + 1) (by rw [hD]; trivial) (.inl rfl) (fun b u hb hu => (sb.2 b hb).trans hu) he (setTO_new new))

/-- {elt for target in iter if ..}, elt a text: D the new set -/
def tScT (w : World) (wi : TI) (g : TG) (tt : TT) (te : TE) (vs : List Nat) : TE := fun σ H Q => wi σ H fun J H1 => ∀ D, H1 D = none → ∃ W : Nat → Nat → Hp → Prop, (∃ m, W 0 m (upd H1 D (SetTO w D []))) ∧ ∀ i m H, W i m H →
  (J.stop i H ∧ Q (.ref D) H) ∨ (J.go i H ∧ ∃ Nx : Hp → Prop, (∀ H', Nx H' → ∃ m', m' < m ∧ W (i + 1) m' H') ∧ ∀ x H', J.yld i H x H' → g x (wipe σ vs) H' fun σ2 H2 => wipe σ2 vs = wipe σ vs ∧ tt σ2 H2 fun b H3 =>
    if b = true then te σ2 H3 fun y H4 => ∃ (c : PySem.Str) (M : List PySem.Str), y = .str c ∧ H4 D = some (SetTO w D M) ∧ M.length + 1 < scanBound ∧ Nx (upd H4 D (SetTO w D (M ++ [c]))) else Nx H3)
theorem scT_core {pins : List (Addr × Obj)} {s : Shared} {σ : L2.St} {H : Hp} {Q : VK} {elt tg iter : Expr} {ifs : List Expr} {scope : Scope} {own : List (PySem.Str × Nat)} {pos pos' : Pos} {wi : TI} {g : TG} {tt : TT} {te : TE} {use : Option (Value → Sem Unit)} {Qf : Value → Shared → Prop}
    (hc : X.calm = true) (hN : X.N.Nodup) (I : Inv X pins σ H s) (hi : PI X tg iter wi) (ok : BlkOk X.N X.env.scope scope own)
    (hg : ∀ (s : Shared) (H : Hp) (C : Addr) (cl : List (PySem.Str × Addr)) (fp : List Addr), PG (X.blk s H scope (compEnvC scope cl C X.env) fp) tg g) (ht : ∀ (s : Shared) (H : Hp) (C : Addr) (cl : List (PySem.Str × Addr)) (fp : List Addr), PTs (X.blk s H scope (compEnvC scope cl C X.env) fp) ifs tt)
    (he : ∀ (s : Shared) (H : Hp) (C : Addr) (cl : List (PySem.Str × Addr)) (fp : List Addr), PE (X.blk s H scope (compEnvC scope cl C X.env) fp) elt te) (hs : ∀ x, foldedSetIterable iter X.env x = pure x)
    (h : tScT X.w wi g tt te (own.map (·.2)) σ H Q)
    (hRR : ∀ D C s' m H', Inv X pins σ H' s' → Q (.ref D) H' → s'.heap.Ns C m → FpOk X pins H' C → compPost (model X.prog X.w) X.A X.xe use Qf (.ref D) C (.ok .next) s') :
    wpAny (model X.prog X.w) X.A (comprehension (.SetComp elt [⟨tg, iter, ifs, 0⟩] scope pos) scope X.env pos' (newSet (.type "set")) false (eval iter X.env) use) Qf X.xe s := by
  have hfree : ∀ y ∈ scope.names, y.2 = .free → ∃ c, X.env.cells.lookup y.1 = some c := fun y hy e => by
    rcases ok.free y hy e with k | k
    · exact I.ok.has _ (.inl k)
    · exact I.ok.has _ (.inr k)
  refine wpAny_comprehension_free (use := use) rfl hs (closure_ok hfree) ok.kind (fun y hy e => by rw [ok.uniq y hy, e])
    (thn (hi.run pins s σ H _ I h) fun xv s1 hx => thn hx fun itv s2 h2 => ?_)
  obtain ⟨it, fp, tn, J, H2, rfl, I2, T, st2, f2, q⟩ := h2
  refine newSet_txt (newEnv_comp ?_)
  generalize hD : s2.heap.objs.size = D
  have hDn : H2 D = none := I2.hok.fresh (Nat.le_of_eq hD)
  obtain ⟨W, ⟨m0, w0⟩, turn⟩ := q D hDn
  generalize hs3 : ({ s2 with heap := s2.heap.push { cls := .type "set", dict := none, data := .set #[] 0 (.fresh 0 0 (!X.w.params.followText "set-order")) } } : Shared) = s3
  have I3 : Inv X pins σ (upd H2 D (SetTO X.w D [])) s3 := by
    rw [← hs3]
    refine I2.laid (t' := s2.toks) (fun b o e => Heap.get?_push_of_some _ e) (Nat.le_of_eq hD) ?_
    rw [← hD]
    exact setTO_new (fresh_txt X.w _ (Heap.get?_push_size _ rfl))
  have h3 : s3.heap = s2.heap.push { cls := .type "set", dict := none, data := .set #[] 0 (.fresh 0 0 (!X.w.params.followText "set-order")) } := by rw [← hs3]
  have f3 : ∀ b ∈ fp, FpOk X pins (upd H2 D (SetTO X.w D [])) b ∧ b < s3.heap.objs.size := fun b hb => by
    have hlt : b < s2.heap.objs.size := by
      obtain ⟨o, e, _⟩ := T.obj _ _ st2 b hb
      exact Heap.lt_size e
    refine ⟨⟨?_, (f2 b hb).2⟩, by rw [h3, Heap.size_push]; exact Nat.lt_succ_of_lt hlt⟩
    rw [upd_ne (by rw [← hD]; exact Nat.ne_of_lt hlt)]
    exact (f2 b hb).1
  have st3 : tn 0 s3.heap := T.keep _ _ _ st2 fun b _ o e => by rw [h3]; exact Heap.get?_push_of_some _ e
  have I4 := block_start I3 ok hN f3
  have pg := hg s3 (upd H2 D (SetTO X.w D [])) s3.heap.objs.size (cellsFrom (s3.heap.objs.size + 1) scope.names (cloFrom X.env.cells scope.names [])) fp
  have pt := ht s3 (upd H2 D (SetTO X.w D [])) s3.heap.objs.size (cellsFrom (s3.heap.objs.size + 1) scope.names (cloFrom X.env.cells scope.names [])) fp
  have pe := he s3 (upd H2 D (SetTO X.w D [])) s3.heap.objs.size (cellsFrom (s3.heap.objs.size + 1) scope.names (cloFrom X.env.cells scope.names [])) fp
  show codeAny _ _ (.compStart (.SetComp elt [⟨tg, iter, ifs, 0⟩] scope pos) 0 (.ref it) (.ref D) (compEnvC scope (cellsFrom (s3.heap.objs.size + 1) scope.names (cloFrom X.env.cells scope.names [])) s3.heap.objs.size X.env)) (compPost (model X.prog X.w) X.A X.xe use Qf (.ref D) s3.heap.objs.size) { s3 with heap := pushCells (s3.heap.push { cls := .type "dict", data := .dict #[] }) scope.names }
  have nfp : ∀ b ∈ fp, (upd H2 D (SetTO X.w D [])) b = none := fun b hb => (f3 b hb).1.1
  generalize hce : compEnvC scope (cellsFrom (s3.heap.objs.size + 1) scope.names (cloFrom X.env.cells scope.names [])) s3.heap.objs.size X.env = ce at I4 pg pt pe ⊢
  have cL : ce.locals = s3.heap.objs.size := by subst hce; rfl
  generalize hH3 : upd H2 D (SetTO X.w D []) = H3 at I3 I4 pg pt pe w0 nfp f3
  generalize hs4 : ({ s3 with heap := pushCells (s3.heap.push { cls := .type "dict", data := .dict #[] }) scope.names } : Shared) = s4 at I4 ⊢
  have st4 : tn 0 s4.heap := T.keep _ _ _ st3 fun b _ o e => by rw [← hs4]; exact pushCells_keeps _ _ _ _ (Heap.get?_push_of_some _ e)
  have stat : ∀ {σ' : L2.St} {H' : Hp} {s' : Shared}, Inv (X.blk s3 H3 scope ce fp) [] σ' H' s' → (∀ b ∈ fp, H' b = none) → ∀ b ∈ fp, FpOk (X.blk s3 H3 scope ce fp) [] H' b := fun {σ' H' s'} I' hn b hb =>
    ⟨hn b hb, (I'.ok.exf b hb).1, I'.ok.exfs b hb, .inl hb, fun x c e => (I'.ok.exf b hb).2 x c e, fun p hp => absurd (show p ∈ ([] : List (Addr × Obj)) ++ [] from hp) (by simp)⟩
  have loop : codeAny (model X.prog X.w) X.A (.compLoop (.SetComp elt [⟨tg, iter, ifs, 0⟩] scope pos) 0 (.ref it) (.ref D) ce) (compPost (model X.prog X.w) X.A X.xe use Qf (.ref D) s3.heap.objs.size) s4 := by
    refine PpSet.compLoopS_any (fun n s' => ∃ i H', Inv (X.blk s3 H3 scope ce fp) [] (wipe σ (own.map (·.2))) H' s' ∧ tn i s'.heap ∧ (∀ b ∈ fp, H' b = none) ∧ W i n H') ?_ m0 ⟨0, H3, I4, st4, nfp, w0⟩
    rintro n s5 ⟨i, H5, I5, st5, n5, w5⟩
    rcases turn i n H5 w5 with ⟨stop, qq⟩ | ⟨go, Nx, hNx, step⟩
    · have td := T.done (X.blk s3 H3 scope ce fp) rfl rfl rfl hc i [] s5 _ H5 (fun _ _ => False) I5 (stat I5 n5) st5 stop
      refine thnF td fun r s6 ⟨hr, I6⟩ => ?_
      subst hr
      have I7 : Inv X pins σ H5 s6 := I3.call' (ch := fp) I6.os I6.base I6.hok I6.bare fun b hb => ⟨(f3 b hb).1.2.2.2.1, (f3 b hb).1.2.1, (f3 b hb).1.2.2.2.2.1, (f3 b hb).1.2.2.2.2.2⟩
      have nC : H5 s3.heap.objs.size = none := by
        have z : H5 ce.locals = none := I6.free
        rw [cL] at z
        exact z
      obtain ⟨m, hn, _⟩ := I6.loc
      have hn : s6.heap.Ns ce.locals m := hn
      rw [cL] at hn
      exact hRR D s3.heap.objs.size s6 m H5 I7 qq hn (I3.fpOk (Nat.le_refl _) nC)
    · have ti := T.item (X.blk s3 H3 scope ce fp) rfl rfl rfl hc i [] s5 _ H5 (fun _ _ => False) I5 (stat I5 n5) st5 go
      refine thnF ti fun r s6 ⟨u, hr, h6⟩ => ?_
      subst hr
      refine thnF h6 fun _ s7 ⟨x, H7, I7, r7, y7, st7, n7⟩ => ?_
      have I7' := I7.pinned (stat I7 n7) (T.obj _ _ st7)
      refine thnF (pg.run _ s7 _ H7 x u _ I7' r7 (step x H7 y7)) fun _ s8 ⟨σ8, H8, I8, hw8, q8⟩ => ?_
      refine thnF (pt.run _ s8 σ8 H8 _ I8 q8) fun b s9 ⟨H9, I9, q9⟩ => ?_
      have fin : ∀ {s' : Shared} {H' : Hp}, Inv (X.blk s3 H3 scope ce fp) ([] ++ pinsAt fp s7.heap) σ8 H' s' → Nx H' → ∃ m, m < n ∧ ∃ i H', Inv (X.blk s3 H3 scope ce fp) [] (wipe σ (own.map (·.2))) H' s' ∧ tn i s'.heap ∧ (∀ b ∈ fp, H' b = none) ∧ W i m H' := fun {s' H'} I' nx => by
        obtain ⟨m', hm, w'⟩ := hNx H' nx
        have pin' : ∀ b ∈ fp, ∀ o, s7.heap.get? b = some o → s'.heap.get? b = some o ∧ H' b = none := fun b hb o e =>
          let z := I'.pin (b, o) (List.mem_append_right _ (List.mem_append_right _ (mem_pinsAt hb e)))
          ⟨z.1, z.2.1⟩
        have hl : (wipe σ (own.map (·.2))).length = σ8.length := by rw [← hw8, wipe_length]
        refine ⟨m', hm, i + 1, H', (I'.unpinned (pins := [])).weak hl (fun j v e => ?_), T.keep _ _ _ st7 fun b hb o e => (pin' b hb o e).1, fun b hb => ?_, w'⟩
        · rw [← hw8] at e
          exact (wipe_some e).1
        · obtain ⟨o, e, _⟩ := T.obj _ _ st7 b hb
          exact (pin' b hb o e).2
      cases b with
      | false =>
        simp only [Bool.false_eq_true, if_false] at q9 ⊢
        exact fin I9 q9
      | true =>
        simp only [if_true] at q9 ⊢
        refine thnF (pe.run _ s9 σ8 H9 _ I9 q9) fun z s10 ⟨yv, H10, I10, r10, c, M, ey, hD10, hz10, nx⟩ => ?_
        subst ey
        obtain ⟨tk, rfl⟩ := (show ∃ t, z = Value.str c t from r10)
        exact addT_ok (X := X.blk s3 H3 scope ce fp) I10 hD10 hz10 fun s11 I11 => fin I11 nx
  exact PpSet.codeAny_compStart_set loop (T.self X.A 0 _ _ _ st4 loop)
/-- as a value -/
theorem pe_scT {elt tg iter : Expr} {ifs : List Expr} {scope : Scope} {own : List (PySem.Str × Nat)} {pos : Pos} {wi : TI} {g : TG} {tt : TT} {te : TE} (hc : X.calm = true) (hN : X.N.Nodup) (hi : PI X tg iter wi) (ok : BlkOk X.N X.env.scope scope own)
    (hg : ∀ (s : Shared) (H : Hp) (C : Addr) (cl : List (PySem.Str × Addr)) (fp : List Addr), PG (X.blk s H scope (compEnvC scope cl C X.env) fp) tg g) (ht : ∀ (s : Shared) (H : Hp) (C : Addr) (cl : List (PySem.Str × Addr)) (fp : List Addr), PTs (X.blk s H scope (compEnvC scope cl C X.env) fp) ifs tt)
    (he : ∀ (s : Shared) (H : Hp) (C : Addr) (cl : List (PySem.Str × Addr)) (fp : List Addr), PE (X.blk s H scope (compEnvC scope cl C X.env) fp) elt te) (hs : ∀ x, foldedSetIterable iter X.env x = pure x := by intro _; rfl) :
    PE X (.SetComp elt [⟨tg, iter, ifs, 0⟩] scope pos) (tScT X.w wi g tt te (own.map (·.2))) := by
  refine ⟨fun pins s σ H Q I h => ?_⟩
  rw [PpSet.eval_SetComp]
  refine scT_core hc hN I hi ok hg ht he hs h fun D C s' m H' I' q hn f => ⟨m, hn, fun h'' sb => ?_⟩
  obtain ⟨f0, f1, f2, f3, f4, f5⟩ := f
  exact ⟨.ref D, H', I'.turned (t' := s'.toks) (fun b o hb e => (sb.2 b hb).trans e) f0 f1 f3 f4 f5, rfl, q⟩
/-- over any walk of n turns -/
theorem sc_gen {w : World} {J : It} {n : Nat} {g : TG} {tt : TT} {te : TE} {vs : List Nat} {σ : L2.St} {H1 : Hp} {D : Addr} {Qd : Hp → Prop} (Pv : Nat → Hp → Prop) (h0 : Pv 0 (upd H1 D (SetTO w D []))) (hgo : ∀ i H, i < n → Pv i H → J.go i H) (hst : ∀ H, Pv n H → J.stop n H)
    (hs : ∀ i x H H', i < n → Pv i H → J.yld i H x H' → g x (wipe σ vs) H' fun σ2 H2 => wipe σ2 vs = wipe σ vs ∧ tt σ2 H2 fun b H3 =>
      if b = true then te σ2 H3 fun y H4 => ∃ (c : PySem.Str) (M : List PySem.Str), y = .str c ∧ H4 D = some (SetTO w D M) ∧ M.length + 1 < scanBound ∧ Pv (i + 1) (upd H4 D (SetTO w D (M ++ [c]))) else Pv (i + 1) H3) (hd : ∀ H, Pv n H → Qd H) :
    ∃ W : Nat → Nat → Hp → Prop, (∃ m, W 0 m (upd H1 D (SetTO w D []))) ∧ ∀ i m H, W i m H →
      (J.stop i H ∧ Qd H) ∨ (J.go i H ∧ ∃ Nx : Hp → Prop, (∀ H', Nx H' → ∃ m', m' < m ∧ W (i + 1) m' H') ∧ ∀ x H', J.yld i H x H' → g x (wipe σ vs) H' fun σ2 H2 => wipe σ2 vs = wipe σ vs ∧ tt σ2 H2 fun b H3 =>
        if b = true then te σ2 H3 fun y H4 => ∃ (c : PySem.Str) (M : List PySem.Str), y = .str c ∧ H4 D = some (SetTO w D M) ∧ M.length + 1 < scanBound ∧ Nx (upd H4 D (SetTO w D (M ++ [c]))) else Nx H3) := by
  refine ⟨fun i m H => m = n - i ∧ i ≤ n ∧ Pv i H, ⟨n, rfl, Nat.zero_le _, h0⟩, ?_⟩
  rintro i m H ⟨rfl, hi, p⟩
  by_cases hlt : i < n
  · exact .inr ⟨hgo i H hlt p, Pv (i + 1), fun H' p' => ⟨n - (i + 1), by omega, rfl, hlt, p'⟩, fun x H' y => hs i x H H' hlt p y⟩
  · have e : i = n := by omega
    subst e
    exact .inl ⟨hst H p, hd H p⟩

/-- sorted(s): a new list of just the members -/
def rSortT (w : World) : List V → Hp → VK → Prop := fun vs H Q => ∃ (a : Addr) (M : List PySem.Str), vs = [V.ref a] ∧ H a = some (SetTO w a M) ∧
  ∀ (xs : List PySem.Str) (p : Addr), (∀ x, x ∈ xs ↔ x ∈ M) → xs.length ≤ M.length → xs.Nodup → H p = none → Q (.ref p) (upd H p (.lst (xs.map V.str)))
theorem cr_sortT (hc : X.calm = true) (hu : X.A.units + 4 < cLine) : CallR X (.builtin "sorted") (rSortT X.w) := by
  intro pins s σ H vs us Q I rs h
  obtain ⟨a, M, rfl, ha, q⟩ := h
  obtain ⟨u, rfl, ru⟩ := vals1 rs
  cases ru
  have R := setTO_get I ha
  refine sorted_txt R (I.ok.hd hc) hu fun s' p out c xs k g o hp hl rv hline hm hlen hnd => ?_
  have hn : H p = none := I.hok.fresh hp
  have J : Inv X pins σ (upd H p (.lst (xs.map V.str))) { s with heap := s'.heap, gens := s'.gens, drawn := s'.drawn, toks := s'.toks } :=
    I.call (ch := []) (Un.laid k hp hn) (I.hok.laid k hp ⟨by rw [List.length_map]; exact hline, out, c, rv, hl⟩) (by rw [g]; exact I.bare) (fun _ z => nomatch z)
  have e : s' = { s with heap := s'.heap, gens := s'.gens, drawn := s'.drawn, toks := s'.toks } := by
    cases s'
    cases s
    cases o
    rfl
  rw [e]
  exact ⟨.ref p, _, J, rfl, q xs p hm hlen hnd hn⟩
end

/-! ### set(l), l a list of texts -/
section
variable {P : Program} {w : World} {A : Around} {E : Value → Shared → Prop} {s : Shared}
theorem update_txt {I : Addr} {fp wr : List Addr} {G : Array GenState → Array GenState → Prop} {n : Nat} {Pv : Nat → Value → Prop} {St : Nat → Shared → Prop} {R : Result → Shared → Prop}
    (W : WalksS P w A.in1 I fp wr G n Pv St) (S : Addr) (hSf : S ∉ fp) (xs : List PySem.Str) (hn : n = xs.length) (hb : xs.length + 1 < scanBound) (hval : ∀ i v, Pv i v → ∃ x t, xs[i]? = some x ∧ v = .str x t) :
    ∀ (k i : Nat) (s : Shared), n - i = k → i ≤ n → St i s → TxtSet w s.heap S (xs.take i) →
      (∀ s', Moved (S :: wr) G s s' → TxtSet w s'.heap S xs → R (.ok (.ret .none)) s') →
      codeAny (model P w) A (.builtin "set.update.loop" ⟨[.ref S, .ref I], []⟩) R s := by
  have hSw : S ∉ wr := fun h => hSf (W.sub _ h)
  have hsub : ∀ b ∈ wr, b ∈ S :: wr := fun b hb => List.mem_cons_of_mem _ hb
  intro k
  induction k with
  | zero =>
    intro i s hk' hi hst hS hR
    have hin : i = n := by omega
    subst hin
    refine codeAny_builtin F.entry_set_update_loop ?_
    rw [Around.under_plainId F.plain_set_update_loop _]
    show wpAny _ A.in1 (pyNext (.ref I) >>= _) _ _ s
    refine wpAny_bind (W.done s _ _ hst fun s' hm => ?_)
    show wpAny _ A.in1 (ret Value.none) _ _ s'
    rw [List.take_of_length_le (by omega)] at hS
    exact wpAny_pure (hR s' (hm.mono hsub) (hS.keep fun o e => hm.heap S o hSw e))
  | succ k ih =>
    intro i s hk' hi hst hS hR
    have hlt : i < n := by omega
    refine codeAny_builtin F.entry_set_update_loop ?_
    rw [Around.under_plainId F.plain_set_update_loop _]
    show wpAny _ A.in1 (pyNext (.ref I) >>= _) _ _ s
    refine wpAny_bind (W.item i s _ _ hlt hst fun v s' hP hst' hm => ?_)
    obtain ⟨z, t, hz, rfl⟩ := hval i v hP
    have hS' : TxtSet w s'.heap S (xs.take i) := hS.keep fun o e => hm.heap S o hSw e
    show wpAny _ A.in1 (holding [Value.str z t] (setAdd S (.str z t)) >>= _) _ _ s'
    refine wpAny_bind (wpAny_holding ?_)
    unfold setAdd
    refine wpAny_holding ?_
    refine wpAny_bind ((strKind P w).pyHash (k := z) (strKind_is _ _ _ _) ?_)
    refine add_hashed (s := { s' with toks := s'.toks + 1 }) hS' (by rw [List.length_take]; omega) fun b h' hsb hS2 => ?_
    have hS3 : TxtSet w h' S (xs.take (i + 1)) := by
      rw [List.take_add_one, hz]
      exact hS2
    refine wpAny_pure ⟨plainId_quiet F.plain_set_update_loop _, ih (i + 1) _ (by omega) hlt (W.frame _ s' _ _ hst' (Nat.le_succ _) fun b hb o e => ?_) hS3 fun s'' hm'' hS'' => ?_⟩
    · rw [hsb.2 b (fun h : b = S => hSf (by rw [← h]; exact hb))]; exact e
    · refine hR s'' (Moved.trans W.gtrans ((hm.mono hsub).then_heap (Nat.le_succ _) fun b o hb e => ?_) hm'') hS''
      rw [hsb.2 b (fun h : b = S => hb (by rw [h]; exact List.mem_cons_self))]; exact e

abbrev obS (w : World) : Obj := { cls := .type "set", dict := none, data := .set #[] 0 (.fresh 0 0 (!w.params.followText "set-order")) }
set_option maxRecDepth 100000 in
set_option maxHeartbeats 3200000 in
theorem call_setL {l : Addr} {items : Array Value} (xs : List PySem.Str) {Q : Value → Shared → Prop} (hh : A.handled = none) (hl : s.heap.IsList l items) (hsz0 : items.size = xs.length) (hval : ∀ (i : Nat) (v : Value), items[i]? = some v → ∃ x t, xs[i]? = some x ∧ v = .str x t) (hb : xs.length + 1 < scanBound)
    (h : ∀ (h' : Heap) (tk : Nat), TxtSet w h' s.heap.objs.size xs → (∀ b o, s.heap.get? b = some o → h'.get? b = some o) → Q (.ref s.heap.objs.size) { s with heap := h', toks := tk }) :
    wpAny (model P w) A (call (.type "set") [.ref l]) Q E s := by
  obtain ⟨c, tl, hmro⟩ := F.called_set.mro
  have hmade := F.called_set.made
  have hsub := F.called_set.sub
  refine wpAny_call (codeAny_of_tree ?_)
  show wpAny _ _ (callAny (.type "set") _) _ _ _
  refine wpAny_pure ⟨Code.quiet_builtin _ (by decide +kernel), codeAny_builtin F.entry_type_call ?_⟩
  rw [Around.under_plain (weight_type_call_type "set" [.ref l] []) rfl]
  have h1 := F.called_set.notType
  have h2 := F.called_set.canCreate
  have hct := F.typeCall_set_1 (.ref l)
  repeat (any_goals (first | assumption | wp_step))
  refine codeAny_mono (code_set_led1 (.ref l) (E := E) (Q₁ := fun obj s₁ => obj = .ref s.heap.objs.size ∧ s₁ = { s with heap := s.heap.push (obS w) }) ⟨rfl, rfl⟩) fun r s₁ hr => ?_
  cases r with
  | error e => exact hr
  | ok fl =>
    cases fl with
    | ret obj =>
      obtain ⟨rfl, rfl⟩ := hr
      have hS : (s.heap.push (obS w)).get? s.heap.objs.size = some (obS w) := Heap.get?_push_size _ rfl
      have hT : Shared.TypeIs { s with heap := s.heap.push (obS w) } (.ref s.heap.objs.size) "set" := ⟨_, hS, rfl⟩
      have hli := F.called_set.init.lookup
      have hbi := F.called_set.init.bind (.ref s.heap.objs.size)
      repeat (any_goals (first | assumption | wp_step))
      refine codeAny_mono (codeAny_call_builtin (R := wants (fun r s₂ => r = .none ∧ ∃ h' tk, s₂ = { s with heap := h', toks := tk } ∧ TxtSet w h' s.heap.objs.size xs ∧
          (∀ b o, s.heap.get? b = some o → h'.get? b = some o)) E) F.called_set.init.plain F.entry_set_init (check_set_init_1 hT ?_)) fun r₂ s₂ hr₂ => ?_
      · obtain ⟨ol, hol, hcl, nl, hdl⟩ := hl
        obtain ⟨ocls, odict, odata, oslots⟩ := ol
        simp only at hcl hdl
        subst hcl; subst hdl
        have hol' : (s.heap.push (obS w)).get? l = some { cls := .type "list", dict := odict, data := .seq items nl, slots := oslots } := Heap.get?_push_of_some _ hol
        have hsls := PySem.F.sub_list_set
        have hslf := PySem.F.sub_list_frozenset
        have hne : (Value.type "list" == Value.type "dict") = false := by decide
        have hl1 : (s.heap.push (obS w)).IsList l items := ⟨_, hol', rfl, nl, rfl⟩
        unfold Builtin.«set.__init__» noKeywords Builtin.Frozenset.updateFrom
        generalize hPI : pyIter = PI
        wp_walk
        subst hPI
        refine wpAny_pyIter_list hl1 ?_
        refine wpAny_bind (wpAny_runValue ?_)
        have hlS : l < s.heap.objs.size := Heap.lt_size hol
        have hh3 : A.in1.in1.in1.handled = none := by simp [hh]
        have hneI : l ≠ (s.heap.push (obS w)).objs.size := by
          rw [Heap.size_push]; exact Nat.ne_of_lt (Nat.lt_succ_of_lt hlS)
        have hSf : s.heap.objs.size ∉ [(s.heap.push (obS w)).objs.size, l] := by
          rw [Heap.size_push]; simp only [List.mem_cons, List.mem_singleton, List.not_mem_nil, or_false, not_or]
          exact ⟨Nat.ne_of_lt (Nat.lt_succ_self _), Nat.ne_of_gt hlS⟩
        refine update_txt ((Walks.list hh3 _ l hneI items).toS) s.heap.objs.size
          hSf xs hsz0 hb hval (items.size - 0) 0 _ (by omega) (Nat.zero_le _)
          ⟨⟨_, Heap.get?_push_size _ rfl, rfl, rfl⟩, (hl1.push _)⟩ ?hS0 ?hR
        case hS0 =>
          exact fresh_txt w _ (Heap.get?_push_of_some _ hS)
        case hR =>
          intro s' hm hS'
          obtain ⟨h', g2, d', tk', os'⟩ := s'
          have eg : g2 = s.gens := hm.gens
          have ed : d' = s.drawn := hm.drawn
          have eo : os' = s.os := hm.os
          subst eg; subst ed; subst eo
          show wpAny _ _ _ _ _ _
          refine wpAny_pure ?_
          show wpAny _ _ (ret Value.none) _ _ _
          refine wpAny_pure ⟨rfl, h', tk', rfl, hS', fun b o e => ?_⟩
          have hb0 : b < s.heap.objs.size := Heap.lt_size e
          have hb1 : b ≠ s.heap.objs.size := Nat.ne_of_lt hb0
          have hb2 : b ≠ (s.heap.push (obS w)).objs.size := by
            rw [Heap.size_push]; exact Nat.ne_of_lt (Nat.lt_succ_of_lt hb0)
          exact hm.heap b o (by simp only [List.mem_cons, List.mem_singleton, List.not_mem_nil, or_false, not_or]; exact ⟨hb1, hb2⟩) (Heap.get?_push_of_some _ (Heap.get?_push_of_some _ e))
      · cases r₂ with
        | error e => exact hr₂
        | ok fl₂ =>
          cases fl₂ with
          | ret r =>
            obtain ⟨rfl, h', tk, rfl, hS', hk'⟩ := hr₂
            repeat (any_goals (first | assumption | wp_step))
            exact h _ _ hS' hk'
          | _ => exact hr₂.elim
    | _ => exact hr.elim
end
section
variable {X : Cx}
/-- set(l) -/
def rSetL (K : PySem.W.Frag) (w : World) : List V → Hp → VK → Prop := fun vs H Q => ∃ (a : Addr) (xs : List PySem.Str), vs = [V.ref a] ∧ SqL K H a (xs.map V.str) ∧ xs.length + 1 < scanBound ∧ ∀ p, H p = none → Q (.ref p) (upd H p (SetTO w p xs))
theorem cr_setL (hc : X.calm = true) : CallR X (.type "set") (rSetL X.K X.w) := by
  intro pins s σ H vs us Q I rs h
  obtain ⟨a, xs, rfl, hq, hb, q⟩ := h
  obtain ⟨u, rfl, ru⟩ := vals1 rs
  cases ru
  obtain ⟨its, rv, p, hz⟩ := I.list hq
  have hl := rv.length
  rw [List.length_map] at hl
  refine call_setL xs (I.ok.hd hc) p.isList (by rw [List.size_toArray, hl]) (fun i v hv => ?_) hb fun h' tk new k => ?_
  · have hv' : its[i]? = some v := by simpa using hv
    have hi : i < xs.length := by
      have := (List.getElem?_eq_some_iff.mp hv').1
      omega
    obtain ⟨u, hu, t, ru⟩ := rv.get (i := i) (x := .str xs[i]) (by simp [hi])
    rw [hv'] at hu
    cases hu
    exact ⟨xs[i], t, List.getElem?_eq_getElem hi, ru⟩
  · exact ⟨.ref _, _, I.laid (a := s.heap.objs.size) (t' := tk) k (Nat.le_refl _) (setTO_new new), rfl, q _ (I.hok.fresh (Nat.le_refl _))⟩
end
end DS

/-! tuples (int, int, text): their order, sorted(list of them), u <= t where t comes first -/
namespace DO
open PySem PySem.Spec PyProof.Rows L2

abbrev Door := Int × Int × PySem.Str
def dlt (a b : Door) : Bool := decide (a.1 < b.1 ∨ (a.1 = b.1 ∧ (a.2.1 < b.2.1 ∨ (a.2.1 = b.2.1 ∧ a.2.2.cps.toList < b.2.2.cps.toList))))
def dv (d : Door) : List V := [.int d.1, .int d.2.1, .str d.2.2]
def enc (d : Door) : PyData := .tuple [.int d.1, .int d.2.1, .str d.2.2]

theorem dataLt_door (a b : Door) : PySem.W.dataLt (enc a) (enc b) = dlt a b := by
  obtain ⟨x, y, z⟩ := a
  obtain ⟨x', y', z'⟩ := b
  unfold enc
  rw [PySem.W.dataLt_tuple, PySem.W.dataLt_cons (by simp [PySem.W.alike]), PySem.W.dataLt_cons (by simp [PySem.W.alike]), PySem.W.dataLt_cons (by simp [PySem.W.alike]), PySem.W.dataLt_int, PySem.W.dataLt_int, PySem.W.dataLt_str]
  have e : PyProof.Rows.lexLt PyProof.Rows.itemOrd (PySem.W.keyToksAll []) (PySem.W.keyToksAll []) = false := PyProof.Rows.lex_irrefl _
  rw [e]
  simp only [PyData.eqv, beq_iff_eq]
  unfold dlt
  by_cases h1 : x = x'
  · subst h1
    rw [if_pos rfl]
    by_cases h2 : y = y'
    · subst h2
      rw [if_pos rfl]
      by_cases h3 : z = z'
      · subst h3
        rw [if_pos rfl]
        refine (decide_eq_false ?_).symm
        rintro (q | ⟨_, q | ⟨_, q⟩⟩)
        · exact Int.lt_irrefl _ q
        · exact Int.lt_irrefl _ q
        · exact List.lt_irrefl _ q
      · rw [if_neg h3]
        refine decide_eq_decide.mpr ⟨fun q => .inr ⟨rfl, .inr ⟨rfl, q⟩⟩, ?_⟩
        rintro (q | ⟨_, q | ⟨_, q⟩⟩)
        · exact absurd q (Int.lt_irrefl _)
        · exact absurd q (Int.lt_irrefl _)
        · exact q
    · rw [if_neg h2]
      refine decide_eq_decide.mpr ⟨fun q => .inr ⟨rfl, .inl q⟩, ?_⟩
      rintro (q | ⟨_, q | ⟨q, _⟩⟩)
      · exact absurd q (Int.lt_irrefl _)
      · exact q
      · exact absurd q h2
  · rw [if_neg h1]
    refine decide_eq_decide.mpr ⟨.inl, ?_⟩
    rintro (q | ⟨q, _⟩)
    · exact q
    · exact absurd q h1

theorem dlt_or {a b : Door} (ne : a ≠ b) (h : dlt b a = false) : dlt a b = true := by
  obtain ⟨x, y, z⟩ := a
  obtain ⟨x', y', z'⟩ := b
  unfold dlt at h ⊢
  have h := of_decide_eq_false h
  refine decide_eq_true ?_
  simp only at h ⊢
  rcases Int.lt_trichotomy x x' with q | q | q
  · exact .inl q
  · subst q
    refine .inr ⟨rfl, ?_⟩
    rcases Int.lt_trichotomy y y' with q | q | q
    · exact .inl q
    · subst q
      refine .inr ⟨rfl, ?_⟩
      have h3 : ¬ z'.cps.toList < z.cps.toList := fun q => h (.inr ⟨rfl, .inr ⟨rfl, q⟩⟩)
      rcases List.le_iff_lt_or_eq.mp (List.not_lt.mp h3) with q | q
      · exact q
      · exact absurd (by rw [PySem.W.str_of_cps q]) ne
    · exact absurd (.inr ⟨rfl, .inl q⟩) h
  · exact absurd (.inl q) h

def IsDoor (H : Hp) (t : Addr) (d : Door) : Prop := H t = some (.tup (dv d))

section
variable {X : Cx}
/-- sorted(l), l a list of such tuples -/
def rSortD (K : PySem.W.Frag) : List V → Hp → VK → Prop := fun vs H Q => ∃ (a : Addr) (ts : List Addr) (ds : List Door), vs = [V.ref a] ∧ SqL K H a (ts.map V.ref) ∧ Paired (IsDoor H) ts ds ∧
  ∀ (ts' : List Addr) (ds' : List Door) (p : Addr), Paired (IsDoor H) ts' ds' → ds'.Perm ds → ds'.Pairwise (fun x y => dlt y x = false) → H p = none → Q (.ref p) (upd H p (.lst (ts'.map V.ref)))
theorem cr_sortD (hu : X.A.units + 8 < cLine) : CallR X (.builtin "sorted") (rSortD X.K) := by
  intro pins s σ H vs us Q I rs h
  obtain ⟨a, ts, ds, rfl, hq, hp, q⟩ := h
  obtain ⟨u, rfl, ru⟩ := vals1 rs
  cases ru
  obtain ⟨its, rv, p, hz⟩ := I.list hq
  have hv : its = ts.map Value.ref := refs_at rv
  subst hv
  have ev : ∀ {ts : List Addr} {ds : List Door}, Paired (IsDoor H) ts ds → PySem.W.EachIs (fun v d => ∃ t, v = Value.ref t ∧ IsDoor H t d) (ts.map Value.ref) ds := by
    intro ts ds h
    induction h with
    | nil => exact .nil
    | cons h _ ih => exact .cons ⟨_, rfl, h⟩ ih
  have er : PySem.W.EachIs (fun v d => ∃ as, Reads s.heap v (enc d) as) (ts.map Value.ref) ds := (ev hp).mono fun v d ⟨t, e, h⟩ => by
    subst e
    obtain ⟨its, r, ⟨o, ho, hc, n, hd⟩, _⟩ := I.tuple (xs := dv d) (.inl (.inl h))
    cases r with
    | cons r1 r =>
      cases r with
      | cons r2 r =>
        obtain ⟨u3, rfl, r3⟩ := vals1 r
        obtain ⟨t1, rfl⟩ := r1
        obtain ⟨t2, rfl⟩ := r2
        obtain ⟨t3, rfl⟩ := r3
        exact ⟨_, .tuple ho hc hd (.cons (.int _ _) (.cons (.int _ _) (.cons (.str _ _) .nil)))⟩
  have hlen := (ev hp).length
  have hline : ds.length ≤ sizeLine := by
    rw [← hlen, List.length_map]
    simpa using hz
  refine PySem.W.sorted_data p.isList (ev hp) er (.of fun _ _ => by simp [enc, PySem.W.alike, PySem.W.alikeAll]) (.tuples fun b => ⟨_, _, rfl⟩) hline (fun b _ => ?_) fun out ho eo => ?_
  · have : (enc b).depth = 1 := by simp [enc, PyData.depth, PyData.depthAll]
    omega
  · have back : ∀ {l : List Value} {ds : List Door}, PySem.W.EachIs (fun v d => ∃ t, v = Value.ref t ∧ IsDoor H t d) l ds → ∃ ts : List Addr, l = ts.map Value.ref ∧ Paired (IsDoor H) ts ds := by
      intro l ds e
      induction e with
      | nil => exact ⟨[], rfl, .nil⟩
      | cons h _ ih =>
        obtain ⟨t, rfl, h⟩ := h
        obtain ⟨ts, rfl, hp⟩ := ih
        exact ⟨t :: ts, rfl, .cons h hp⟩
    obtain ⟨ts', rfl, hp'⟩ := back eo
    have refs : ∀ l : List Addr, Vals (l.map V.ref) (l.map Value.ref) := by
      intro l
      induction l with
      | nil => exact .nil
      | cons x r ih => exact .cons rfl ih
    obtain ⟨c, hc⟩ := sortedAll_at s.heap (ts.map Value.ref) (ts'.map Value.ref).toArray
    have hfr : H (s.heap.objs.size + 1) = none := I.hok.fresh (Nat.le_add_right _ _)
    refine ⟨.ref _, _, I.laid (a := s.heap.objs.size + 1) (t' := s.toks) (o := .lst (ts'.map V.ref)) (fun b u e => sortedAll_old e) (Nat.le_add_right _ _) ⟨?_, _, c, refs ts', hc⟩, rfl, q ts' _ _ hp' (List.mergeSort_perm _ _) ?_ hfr⟩
    · have := ho
      rw [List.length_map] at this ⊢
      omega
    · have pw := PySem.W.sort_pairwise (PySem.W.sortLe_total (PyProof.Rows.listOrd PyProof.Rows.itemOrd) false fun d => PySem.W.keyToks (enc d)) ds
      refine pw.imp fun {x y} h => ?_
      have h' : (!PySem.W.dataLt (enc y) (enc x)) = true := h
      rw [dataLt_door] at h'
      cases e : dlt y x with
      | false => rfl
      | true => rw [e] at h'; cases h'

/-- u <= t of two such tuples, t the lesser: False -/
def rLeD : R2 := fun x y H Q => ∃ (a b : Addr) (d e : Door), x = .ref a ∧ y = .ref b ∧ IsDoor H a d ∧ IsDoor H b e ∧ dlt e d = true ∧ Q (.bl false) H
theorem op_leD (hu : X.A.units + 2 < cLine) : OpR X (compareOp .LtE) rLeD := by
  intro pins s σ H x y v u Q I rx ry h
  obtain ⟨a, b, ⟨x1, x2, x3⟩, ⟨y1, y2, y3⟩, rfl, rfl, ha, hb, hl, q⟩ := h
  cases rx
  cases ry
  obtain ⟨its, r1, p1, _⟩ := I.tuple (xs := dv (x1, x2, x3)) (.inl (.inl ha))
  obtain ⟨its2, r2, p2, _⟩ := I.tuple (xs := dv (y1, y2, y3)) (.inl (.inl hb))
  cases r1 with
  | cons a1 r =>
    cases r with
    | cons a2 r =>
      obtain ⟨u3, rfl, a3⟩ := vals1 r
      cases r2 with
      | cons b1 r =>
        cases r with
        | cons b2 r =>
          obtain ⟨w3, rfl, b3⟩ := vals1 r
          obtain ⟨t1, rfl⟩ := a1
          obtain ⟨t2, rfl⟩ := a2
          obtain ⟨t3, rfl⟩ := a3
          obtain ⟨v1, rfl⟩ := b1
          obtain ⟨v2, rfl⟩ := b2
          obtain ⟨v3, rfl⟩ := b3
          have R := Ob.RcOp.tuples_le (A := X.A) (s := s) (e := fun j => if j = 0 then x1 == y1 else if j = 1 then x2 == y2 else x3 == y3) (r := fun j => if j = 0 then decide (x1 ≤ y1) else if j = 1 then decide (x2 ≤ y2) else !decide (y3.cps.toList < x3.cps.toList)) p1 p2 (by omega) (fun j h1 h2 => by
            match j, h1, h2 with
            | 0, _, _ => exact SeqAt.EqAt.int_int _ _ _ _
            | 1, _, _ => exact SeqAt.EqAt.int_int _ _ _ _
            | 2, _, _ => exact SeqAt.EqAt.str_str _ _ _ _
            | j + 3, h1, _ => exact absurd h1 (by simp)) (fun j h1 h2 _ => by
            match j, h1, h2 with
            | 0, _, _ => exact Ob.RcOp.le_int _ _ _ _
            | 1, _, _ => exact Ob.RcOp.le_int _ _ _ _
            | 2, _, _ => exact fun _ _ _ _ h => PySem.P.le_str h
            | j + 3, h1, _ => exact absurd h1 (by simp))
          have e : Ob.lexAt (fun j => if j = 0 then x1 == y1 else if j = 1 then x2 == y2 else x3 == y3) (fun j => if j = 0 then decide (x1 ≤ y1) else if j = 1 then decide (x2 ≤ y2) else !decide (y3.cps.toList < x3.cps.toList)) (decide (3 ≤ 3)) 0 3 = false := by
            have hl := of_decide_eq_true hl
            simp only at hl
            simp only [Ob.lexAt, beq_iff_eq, if_true, if_false, Nat.zero_add, Nat.reduceAdd, Nat.reduceEqDiff, reduceIte]
            rcases hl with h | ⟨h, h2 | ⟨h2, h3⟩⟩
            · rw [if_neg (by omega)]
              exact decide_eq_false (by omega)
            · rw [if_pos h.symm, if_neg (by omega)]
              exact decide_eq_false (by omega)
            · have ne : ¬ x3 = y3 := fun z => by
                rw [z] at h3
                exact List.lt_irrefl _ h3
              rw [if_pos h.symm, if_pos h2.symm, if_neg ne]
              simp [h3]
          have z : wpAny (model X.prog X.w) X.A (compareOp .LtE (.ref a) (.ref b)) (EP X pins σ Q) X.xe s := R X.prog X.w X.xe (EP X pins σ Q) (by
            refine ⟨.bl false, H, I, ?_, q⟩
            show Value.bool (Ob.lexAt _ _ (decide (3 ≤ 3)) 0 3) = Value.bool false
            rw [e])
          exact z
end
end DO

set_option maxHeartbeats 2000000
/-! a display of a dict whose keys are tuples; {k: v for .. for ..} -/
namespace DD
open PySem PySem.Spec PyProof.Rows L2

/-! ### {(a, b): c, ..} -/
def mergeT (kvs more : List (List Key × V)) : List (List Key × V) := more.foldl (fun acc kv => putK acc kv.1 kv.2) kvs
theorem mergeT_len : ∀ (more kvs : List (List Key × V)), (mergeT kvs more).length ≤ kvs.length + more.length
  | [], kvs => by
    show kvs.length ≤ kvs.length + 0
    omega
  | p :: r, kvs => by
    have h1 := mergeT_len r (putK kvs p.1 p.2)
    have h2 := length_putK kvs p.1 p.2
    show (mergeT (putK kvs p.1 p.2) r).length ≤ _
    rw [List.length_cons]
    omega
/-- the new dict stands empty while the pairs are made; l: the keys, their tuples' places, the values -/
def tDispT (trs : List (TE × TE)) : TE := fun σ H Q => ∀ p, H p = none → tPairs trs σ (upd H p (.dT [])) fun ps H2 => H2 p = some (.dT []) ∧
  ∃ l : List (List Key × Addr × V), ps = l.map (fun e => (V.ref e.2.1, e.2.2)) ∧ (∀ e ∈ l, H2 e.2.1 = some (.tup (e.1.map kV))) ∧ l.length ≤ 15 ∧ Q (.ref p) (upd H2 p (.dT (mergeT [] (l.map fun e => (e.1, e.2.2)))))
theorem carriesH_of {X : Cx} {pins : List (Addr × Obj)} {σ : L2.St} {H : Hp} {s : Shared} (I : Inv X pins σ H s) : ∀ {l : List (List Key × Addr × V)} {ws : List (Value × Value)}, VV (l.map fun e => (V.ref e.2.1, e.2.2)) ws → (∀ e ∈ l, H e.2.1 = some (.tup (e.1.map kV))) →
    ∃ ps : List (List Key × Addr × Value), CarriesH (tupleKind (mixKind X.prog X.w)) s.heap ws ps ∧ Paired (fun (e : List Key × Addr × V) (q : List Key × Addr × Value) => e.1 = q.1 ∧ e.2.1 = q.2.1 ∧ RelV e.2.2 q.2.2) l ps
  | [], _, r, _ => by
    rw [List.map_nil] at r
    cases r
    exact ⟨[], trivial, .nil⟩
  | e :: l, _, r, h => by
    rw [List.map_cons] at r
    cases r with
    | @cons a b as bs h1 t =>
      obtain ⟨ps, c, q⟩ := carriesH_of I t fun e' he => h e' (List.mem_cons_of_mem _ he)
      obtain ⟨b1, b2⟩ := b
      have e1 : b1 = Value.ref e.2.1 := h1.1
      exact ⟨(e.1, e.2.1, b2) :: ps, ⟨e1, rfl, key_of I.hok (h e List.mem_cons_self), c⟩, .cons ⟨rfl, rfl, h1.2⟩ q⟩
theorem kt_merge {H : Hp} : ∀ {l : List (List Key × Addr × V)} {ps : List (List Key × Addr × Value)} {kvs : List (List Key × V)} {xs : List (List Key × Addr × Value)}, Paired (fun (e : List Key × Addr × V) (q : List Key × Addr × Value) => e.1 = q.1 ∧ e.2.1 = q.2.1 ∧ RelV e.2.2 q.2.2) l ps →
    (∀ e ∈ l, H e.2.1 = some (.tup (e.1.map kV))) → KT H kvs xs → KT H (mergeT kvs (l.map fun e => (e.1, e.2.2))) (storedAllH xs ps) := by
  intro l ps kvs xs r
  induction r generalizing kvs xs with
  | nil => intro _ q; exact q
  | @cons e q es qs h t ih =>
    intro hl r0
    have h1 : KT H (putK kvs e.1 e.2.2) (storedH xs q.1 q.2.1 q.2.2) := by
      have z := r0.put e.1 (hl e List.mem_cons_self) h.2.2
      rw [← h.1, ← h.2.1]
      exact z
    exact ih (fun e' he => hl e' (List.mem_cons_of_mem _ he)) h1
theorem pe_dispT {X : Cx} {pos : Pos} {keys : List (Option Expr)} {values : List Expr} {trs : List (TE × TE)} (hu : X.A.units + 1 < cLine) (h : PPs X pos keys values trs) (hall : keys.all (·.isSome) = true) (hl : keys.length = values.length) (h0 : keys ≠ [])
    (h15 : keys.length ≤ 15) : PE X (.Dict keys values pos) (tDispT trs) := by
  refine ⟨fun pins s σ H Q I q => ?_⟩
  have hn := I.hok.fresh (Nat.le_refl s.heap.objs.size)
  have I1 := I.laid (a := s.heap.objs.size) (o := .dT []) (h' := s.heap.push { cls := .type "dict", data := .dict #[] }) (t' := s.toks) (fun _ _ q => Heap.get?_push_of_some _ q) (Nat.le_refl _) (dt_empty s.heap I.big)
  have hlen := pairTrees_length keys values X.env pos hall hl
  have hne : pairTrees keys values X.env pos ≠ [] := fun he => by
    rw [he] at hlen
    exact h0 (List.length_eq_zero_iff.mp hlen.symm)
  rw [arm_eval_Dict, zip_pairTrees keys values X.env pos hall hl, dictDisplay_pairs _ hne (by rw [hlen]; omega)]
  refine wpAny_bind (wpAny_standAt (wpAny_bind (wpAny_subDictH (knd := tupleKind (mixKind X.prog X.w)) (Q := fun d s' => wpAny (model X.prog X.w) X.A (pure (Value.ref d)) (EP X pins σ Q) X.xe s') (show X.A.units < cLine by omega) (by rw [hlen]; exact h15)
    (thn (h.run pins _ σ _ _ I1 (q _ hn)) fun ws s2 ⟨ps, H2, I2, rel, e, l, ep, hk, lk, q2⟩ => ?_))))
  subst ep
  obtain ⟨rs, c, rk⟩ := carriesH_of I2 rel hk
  obtain ⟨z, hd, xs0, r0, dd⟩ := dt_of I2.hok e
  cases r0
  refine ⟨rs, c, dd, fun h' tk dd' hs => wpAny_pure ⟨.ref s.heap.objs.size, _, ?_, rfl, q2⟩⟩
  have hz : (mergeT [] (l.map fun e => (e.1, e.2.2))).length ≤ sizeLine := by
    have h1 := mergeT_len (l.map fun e => (e.1, e.2.2)) []
    rw [List.length_nil, List.length_map] at h1
    rw [sizeLine_eq]
    omega
  obtain ⟨o, es, ep, hq, g2, g3, g4, _, g5⟩ := dd'
  refine d_write (t' := tk) I2 (by rw [e]; exact True.intro) hs ⟨o, hq⟩ ⟨hz, hd, _, (kt_merge rk hk .nil).keeps fun c ys ec => ?_, o, es, ep, hq, g2, g3, g4, g5⟩
  rw [upd_ne (ne_of ec e (fun z => nomatch z))]
  exact ec

/-! ### {k: v for .. for ..} -/
section
variable {prog : Program} {w : World} {A : Around} {R : Result → Shared → Prop} {s : Shared} {kx vx t0 i0 t1 i1 : Expr} {ifs0 ifs1 : List Expr} {scope : Scope} {pos : Pos} {it : Value} {D : Addr} {env : Env}
theorem turn_out (kx vx t0 i0 t1 i1 : Expr) (ifs0 ifs1 : List Expr) (scope : Scope) (pos : Pos) (it : Value) (D : Addr) (env : Env) :
    compTurn (.DictComp kx vx [⟨t0, i0, ifs0, 0⟩, ⟨t1, i1, ifs1, 0⟩] scope pos) 0 it (.ref D) env = (do
      standAt i0.pos
      match ← pyNext it with
      | none => pure (.done .next)
      | some v =>
        letOwnedTupleGo t0 it v
        assign t0 env v
        let mut ok := true
        for c in ifs0 do
          if ok then ok ← isTrue c env (eval c env)
        if ok then
          let x ← eval i1 env
          standAt i1.pos
          let x ← foldedSetIterable i1 env x
          let _ ← runOwn (.compStart (.DictComp kx vx [⟨t0, i0, ifs0, 0⟩, ⟨t1, i1, ifs1, 0⟩] scope pos) 1 (← holding [x] (pyIter x)) (.ref D) env) env
        again (.compLoop (.DictComp kx vx [⟨t0, i0, ifs0, 0⟩, ⟨t1, i1, ifs1, 0⟩] scope pos) 0 it (.ref D) env)) := by rfl
theorem turn_in (kx vx t0 i0 t1 i1 : Expr) (ifs0 ifs1 : List Expr) (scope : Scope) (pos : Pos) (it : Value) (D : Addr) (env : Env) :
    compTurn (.DictComp kx vx [⟨t0, i0, ifs0, 0⟩, ⟨t1, i1, ifs1, 0⟩] scope pos) 1 it (.ref D) env = (do
      standAt i1.pos
      match ← pyNext it with
      | none => pure (.done .next)
      | some v =>
        letOwnedTupleGo t1 it v
        assign t1 env v
        let mut ok := true
        for c in ifs1 do
          if ok then ok ← isTrue c env (eval c env)
        if ok then
          (do
            let kv ← eval kx env
            let vv ← holding [kv] (eval vx env)
            standAt { kx.pos with endLine := vx.pos.endLine, endCol := vx.pos.endCol }
            holding [kv, vv] (dictSet D kv vv))
        again (.compLoop (.DictComp kx vx [⟨t0, i0, ifs0, 0⟩, ⟨t1, i1, ifs1, 0⟩] scope pos) 1 it (.ref D) env)) := by rfl
/-- the loop of the first clause -/
theorem loop_out (hs : ∀ x, foldedSetIterable i1 env x = pure x) (I : Nat → Shared → Prop)
    (turn : ∀ n s, I n s → wpAny (model prog w) A (pyNext it) (fun r s₁ => match r with
      | none => R (.ok .next) s₁
      | some v => wpAny (model prog w) A (letOwnedTupleGo t0 it v) (fun _ s₁' => wpAny (model prog w) A (assign t0 env v) (fun _ s₂ =>
          wpAny (model prog w) A (forIn ifs0 true fun c r => if r = true then do let ok ← isTrue c env (eval c env); pure (ForInStep.yield ok) else pure (ForInStep.yield r)) (fun ok s₃ =>
            if ok = true then wpAny (model prog w) A (eval i1 env) (fun x s₄ => wpAny (model prog w) A (pyIter x) (fun it1 s₅ =>
              codeAny (model prog w) A (.compStart (.DictComp kx vx [⟨t0, i0, ifs0, 0⟩, ⟨t1, i1, ifs1, 0⟩] scope pos) 1 it1 (.ref D) env) (fun r s' => match r with
                | .ok _ => ∃ m, m < n ∧ I m s'
                | .error _ => False) s₅) (notedBy (model prog w) A env fun e s' => R (.error e) s') s₄) (notedBy (model prog w) A env fun e s' => R (.error e) s') s₃
            else ∃ m, m < n ∧ I m s₃) (notedBy (model prog w) A env fun e s' => R (.error e) s') s₂) (notedBy (model prog w) A env fun e s' => R (.error e) s') s₁') (notedBy (model prog w) A env fun e s' => R (.error e) s') s₁) (notedBy (model prog w) A env fun e s' => R (.error e) s') s)
    (n : Nat) (h : I n s) : codeAny (model prog w) A (.compLoop (.DictComp kx vx [⟨t0, i0, ifs0, 0⟩, ⟨t1, i1, ifs1, 0⟩] scope pos) 0 it (.ref D) env) R s := by
  refine codeAny_loop rfl I (fun n s hI => ?_) n h
  show wpAny _ A ((compTurn (.DictComp kx vx [⟨t0, i0, ifs0, 0⟩, ⟨t1, i1, ifs1, 0⟩] scope pos) 0 it (.ref D) env).onRaise (fun x => do noteFrame x env; theTreesLotGoes x)) _ _ s
  refine wpAny_noted ?_
  rw [turn_out]
  refine wpAny_bind (wpAny_standAt (wpAny_bind (wpAny_mono (turn n s hI) (fun r s₁ h₁ => ?_) fun _ _ h' => h')))
  cases r with
  | none => exact wpAny_pure h₁
  | some v =>
    refine wpAny_bind (wpAny_mono h₁ (fun _ s₁' h₁' => ?_) fun _ _ h' => h')
    refine wpAny_bind (wpAny_mono h₁' (fun _ s₂ h₂ => wpAny_bind (wpAny_mono h₂ (fun ok s₃ h₃ => ?_) fun _ _ h' => h')) fun _ _ h' => h')
    cases ok with
    | false => exact wpAny_pure ⟨rfl, h₃⟩
    | true =>
      refine wpAny_bind (wpAny_mono h₃ (fun x s₄ h₄ => ?_) fun _ _ h' => h')
      refine wpAny_bind (wpAny_standAt (wpAny_bind (wpAny_of_eq (hs x) (wpAny_bind (wpAny_holding (wpAny_mono h₄ (fun it1 s₅ h₅ => ?_) fun _ _ h' => h'))))))
      refine wpAny_bind (wpAny_runOwn ?_)
      rw [Around.mark_none]
      refine codeAny_mono h₅ fun r s' hr => ?_
      cases r with
      | ok f =>
        first
          | exact wpAny_pure ⟨rfl, hr⟩
          | exact wpAny_bind (wpAny_pure (wpAny_pure ⟨rfl, hr⟩))
      | error e => exact hr.elim
/-- the loop of the second -/
theorem loop_in (I : Nat → Shared → Prop)
    (turn : ∀ n s, I n s → wpAny (model prog w) A (pyNext it) (fun r s₁ => match r with
      | none => R (.ok .next) s₁
      | some v => wpAny (model prog w) A (letOwnedTupleGo t1 it v) (fun _ s₁' => wpAny (model prog w) A (assign t1 env v) (fun _ s₂ =>
          wpAny (model prog w) A (forIn ifs1 true fun c r => if r = true then do let ok ← isTrue c env (eval c env); pure (ForInStep.yield ok) else pure (ForInStep.yield r)) (fun ok s₃ =>
            if ok = true then wpAny (model prog w) A (eval kx env) (fun kv s₄ => wpAny (model prog w) A (eval vx env) (fun vv s₅ =>
              wpAny (model prog w) A (dictSet D kv vv) (fun _ s₆ => ∃ m, m < n ∧ I m s₆) (notedBy (model prog w) A env fun e s' => R (.error e) s') s₅) (notedBy (model prog w) A env fun e s' => R (.error e) s') s₄) (notedBy (model prog w) A env fun e s' => R (.error e) s') s₃
            else ∃ m, m < n ∧ I m s₃) (notedBy (model prog w) A env fun e s' => R (.error e) s') s₂) (notedBy (model prog w) A env fun e s' => R (.error e) s') s₁') (notedBy (model prog w) A env fun e s' => R (.error e) s') s₁) (notedBy (model prog w) A env fun e s' => R (.error e) s') s)
    (n : Nat) (h : I n s) : codeAny (model prog w) A (.compLoop (.DictComp kx vx [⟨t0, i0, ifs0, 0⟩, ⟨t1, i1, ifs1, 0⟩] scope pos) 1 it (.ref D) env) R s := by
  refine codeAny_loop rfl I (fun n s hI => ?_) n h
  show wpAny _ A ((compTurn (.DictComp kx vx [⟨t0, i0, ifs0, 0⟩, ⟨t1, i1, ifs1, 0⟩] scope pos) 1 it (.ref D) env).onRaise (fun x => do noteFrame x env; theTreesLotGoes x)) _ _ s
  refine wpAny_noted ?_
  rw [turn_in]
  refine wpAny_bind (wpAny_standAt (wpAny_bind (wpAny_mono (turn n s hI) (fun r s₁ h₁ => ?_) fun _ _ h' => h')))
  cases r with
  | none => exact wpAny_pure h₁
  | some v =>
    refine wpAny_bind (wpAny_mono h₁ (fun _ s₁' h₁' => ?_) fun _ _ h' => h')
    refine wpAny_bind (wpAny_mono h₁' (fun _ s₂ h₂ => wpAny_bind (wpAny_mono h₂ (fun ok s₃ h₃ => ?_) fun _ _ h' => h')) fun _ _ h' => h')
    cases ok with
    | false => exact wpAny_pure ⟨rfl, h₃⟩
    | true =>
      exact wpAny_bind (wpAny_bind (wpAny_mono h₃ (fun kv s₄ h₄ => wpAny_bind (wpAny_holding (wpAny_mono h₄ (fun vv s₅ h₅ => wpAny_bind (wpAny_standAt (wpAny_holding (wpAny_mono h₅ (fun _ s₆ h₆ => wpAny_pure ⟨rfl, h₆⟩) fun _ _ h' => h')))) fun _ _ h' => h'))) fun _ _ h' => h'))
/-- the second clause's start -/
theorem start_in (h0 : codeAny (model prog w) A (.compLoop (.DictComp kx vx [⟨t0, i0, ifs0, 0⟩, ⟨t1, i1, ifs1, 0⟩] scope pos) 1 it (.ref D) env) R s)
    (h : wpAny (model prog w) A (pyIter it) (fun it' s' => codeAny (model prog w) A (.compLoop (.DictComp kx vx [⟨t0, i0, ifs0, 0⟩, ⟨t1, i1, ifs1, 0⟩] scope pos) 1 it' (.ref D) env) R s')
      (notedBy (model prog w) A env fun x s' => R (.error x) s') s) :
    codeAny (model prog w) A (.compStart (.DictComp kx vx [⟨t0, i0, ifs0, 0⟩, ⟨t1, i1, ifs1, 0⟩] scope pos) 1 it (.ref D) env) R s := by
  refine codeAny_of_tree ?_
  show wpAny _ _ ((compStart (.DictComp kx vx [⟨t0, i0, ifs0, 0⟩, ⟨t1, i1, ifs1, 0⟩] scope pos) 1 it (.ref D) env).onRaise (fun x => do noteFrame x env; standAt theWindowsPlace)) _ _ s
  refine wpAny_notedAt ?_
  unfold compStart
  show wpAny _ _ (ask >>= _) _ _ s
  refine wpAny_bind (wpAny_askSetting (wpAny_ite ?_))
  split
  · first
      | exact wpAny_bind (wpAny_pure (wpAny_pure (And.intro rfl h0)))
      | exact wpAny_pure (And.intro rfl h0)
  · first
      | exact wpAny_bind (wpAny_rule (wpAny_bind (wpAny_standAt (wpAny_bind (wpAny_mono h (fun it' s' h' => wpAny_pure (And.intro rfl h')) fun _ _ x => x)))))
      | (refine wpAny_bind (wpAny_rule ?_); show wpAny _ _ (standAt i1.pos >>= _) _ _ s; exact wpAny_bind (wpAny_standAt (wpAny_bind (wpAny_mono h (fun it' s' h' => wpAny_pure (And.intro rfl h')) fun _ _ x => x))))
end

section
variable {X : Cx}
/-- D the new dict; vs: the block's names, vs1: those of the second target -/
def tDc2 (wi : TI) (g : TG) (tt : TT) (wi1 : TI) (g1 : TG) (tt1 : TT) (tk tv : TE) (vs vs1 : List Nat) : TE := fun σ H Q => wi σ H fun J H1 => ∀ D, H1 D = none → ∃ W : Nat → Nat → Hp → Prop, (∃ m, W 0 m (upd H1 D (.dK []))) ∧ ∀ i m H, W i m H →
  (J.stop i H ∧ Q (.ref D) H) ∨ (J.go i H ∧ ∃ Nx : Hp → Prop, (∀ H', Nx H' → ∃ m', m' < m ∧ W (i + 1) m' H') ∧ ∀ x H', J.yld i H x H' → g x (wipe σ vs) H' fun σ2 H2 => wipe σ2 vs = wipe σ vs ∧ tt σ2 H2 fun b H3 =>
    if b = true then wi1 σ2 H3 fun J1 H4 => ∃ W1 : Nat → Nat → Hp → Prop, (∃ m, W1 0 m H4) ∧ ∀ j k H, W1 j k H →
      (J1.stop j H ∧ Nx H) ∨ (J1.go j H ∧ ∃ Nx1 : Hp → Prop, (∀ H', Nx1 H' → ∃ k', k' < k ∧ W1 (j + 1) k' H') ∧ ∀ x H', J1.yld j H x H' → g1 x (wipe σ2 vs1) H' fun σ3 H5 => wipe σ3 vs1 = wipe σ2 vs1 ∧ tt1 σ3 H5 fun b H6 =>
        if b = true then tk σ3 H6 fun y H7 => tv σ3 H7 fun z H8 => ∃ kvs k, y = kV k ∧ H8 D = some (.dK kvs) ∧ kvs.length < sizeLine ∧ Nx1 (upd H8 D (.dK (putK kvs k z))) else Nx1 H6)
    else Nx H3)
theorem dc2_core {pins : List (Addr × Obj)} {s : Shared} {σ : L2.St} {H : Hp} {Q : VK} {kx vx tg iter tg1 iter1 : Expr} {ifs ifs1 : List Expr} {scope : Scope} {own : List (PySem.Str × Nat)} {vs1 : List Nat} {pos pos' : Pos} {wi wi1 : TI} {g g1 : TG} {tt tt1 : TT} {tk tv : TE} {use : Option (Value → Sem Unit)} {Qf : Value → Shared → Prop}
    (hc : X.calm = true) (hN : X.N.Nodup) (I : Inv X pins σ H s) (hi : PI X tg iter wi) (ok : BlkOk X.N X.env.scope scope own) (hv : ∀ i ∈ vs1, i ∈ own.map (·.2))
    (hg : ∀ (s : Shared) (H : Hp) (C : Addr) (cl : List (PySem.Str × Addr)) (fp : List Addr), PG (X.blk s H scope (compEnvC scope cl C X.env) fp) tg g) (ht : ∀ (s : Shared) (H : Hp) (C : Addr) (cl : List (PySem.Str × Addr)) (fp : List Addr), PTs (X.blk s H scope (compEnvC scope cl C X.env) fp) ifs tt) (hk : ∀ (s : Shared) (H : Hp) (C : Addr) (cl : List (PySem.Str × Addr)) (fp : List Addr), PE (X.blk s H scope (compEnvC scope cl C X.env) fp) kx tk) (he : ∀ (s : Shared) (H : Hp) (C : Addr) (cl : List (PySem.Str × Addr)) (fp : List Addr), PE (X.blk s H scope (compEnvC scope cl C X.env) fp) vx tv) (hs : ∀ x, foldedSetIterable iter X.env x = pure x)
    (hi1 : ∀ (s : Shared) (H : Hp) (C : Addr) (cl : List (PySem.Str × Addr)) (fp : List Addr), PI (X.blk s H scope (compEnvC scope cl C X.env) fp) tg1 iter1 wi1) (hg1 : ∀ (s : Shared) (H : Hp) (C : Addr) (cl : List (PySem.Str × Addr)) (fp : List Addr), PG (X.blk s H scope (compEnvC scope cl C X.env) fp) tg1 g1) (ht1 : ∀ (s : Shared) (H : Hp) (C : Addr) (cl : List (PySem.Str × Addr)) (fp : List Addr), PTs (X.blk s H scope (compEnvC scope cl C X.env) fp) ifs1 tt1) (hs1 : ∀ env x, foldedSetIterable iter1 env x = pure x)
    (h : tDc2 wi g tt wi1 g1 tt1 tk tv (own.map (·.2)) vs1 σ H Q)
    (hRR : ∀ D C s' m H', Inv X pins σ H' s' → Q (.ref D) H' → s'.heap.Ns C m → FpOk X pins H' C → compPost (model X.prog X.w) X.A X.xe use Qf (.ref D) C (.ok .next) s') :
    wpAny (model X.prog X.w) X.A (comprehension (.DictComp kx vx [⟨tg, iter, ifs, 0⟩, ⟨tg1, iter1, ifs1, 0⟩] scope pos) scope X.env pos' newDict false (eval iter X.env) use) Qf X.xe s := by
  have hfree : ∀ y ∈ scope.names, y.2 = .free → ∃ c, X.env.cells.lookup y.1 = some c := fun y hy e => by
    rcases ok.free y hy e with k | k
    · exact I.ok.has _ (.inl k)
    · exact I.ok.has _ (.inr k)
  refine wpAny_comprehension_free (use := use) rfl hs (closure_ok hfree) ok.kind (fun y hy e => by rw [ok.uniq y hy, e])
    (thn (hi.run pins s σ H _ I h) fun xv s1 hx => thn hx fun itv s2 h2 => ?_)
  obtain ⟨it, fp, tn, J, H2, rfl, I2, T, st2, f2, q⟩ := h2
  refine wpAny_newObj_type (newEnv_comp ?_)
  generalize hD : s2.heap.objs.size = D
  have hDn : H2 D = none := I2.hok.fresh (Nat.le_of_eq hD)
  obtain ⟨W, ⟨m0, w0⟩, turn⟩ := q D hDn
  generalize hs3 : ({ s2 with heap := s2.heap.push { cls := .type "dict", data := .dict #[] } } : Shared) = s3
  have I3 : Inv X pins σ (upd H2 D (.dK [])) s3 := by
    rw [← hs3]
    refine I2.laid (t' := s2.toks) (fun b o e => Heap.get?_push_of_some _ e) (Nat.le_of_eq hD) ?_
    rw [← hD]
    exact dk_empty s2.heap I2.big
  have h3 : s3.heap = s2.heap.push { cls := .type "dict", data := .dict #[] } := by rw [← hs3]
  have f3 : ∀ b ∈ fp, FpOk X pins (upd H2 D (.dK [])) b ∧ b < s3.heap.objs.size := fun b hb => by
    have hlt : b < s2.heap.objs.size := by
      obtain ⟨o, e, _⟩ := T.obj _ _ st2 b hb
      exact Heap.lt_size e
    refine ⟨⟨?_, (f2 b hb).2⟩, by rw [h3, Heap.size_push]; exact Nat.lt_succ_of_lt hlt⟩
    rw [upd_ne (by rw [← hD]; exact Nat.ne_of_lt hlt)]
    exact (f2 b hb).1
  have st3 : tn 0 s3.heap := T.keep _ _ _ st2 fun b _ o e => by rw [h3]; exact Heap.get?_push_of_some _ e
  have I4 := block_start I3 ok hN f3
  have pg := hg s3 (upd H2 D (.dK [])) s3.heap.objs.size (cellsFrom (s3.heap.objs.size + 1) scope.names (cloFrom X.env.cells scope.names [])) fp
  have pt := ht s3 (upd H2 D (.dK [])) s3.heap.objs.size (cellsFrom (s3.heap.objs.size + 1) scope.names (cloFrom X.env.cells scope.names [])) fp
  have pk := hk s3 (upd H2 D (.dK [])) s3.heap.objs.size (cellsFrom (s3.heap.objs.size + 1) scope.names (cloFrom X.env.cells scope.names [])) fp
  have pe := he s3 (upd H2 D (.dK [])) s3.heap.objs.size (cellsFrom (s3.heap.objs.size + 1) scope.names (cloFrom X.env.cells scope.names [])) fp
  have pi1 := hi1 s3 (upd H2 D (.dK [])) s3.heap.objs.size (cellsFrom (s3.heap.objs.size + 1) scope.names (cloFrom X.env.cells scope.names [])) fp
  have pg1 := hg1 s3 (upd H2 D (.dK [])) s3.heap.objs.size (cellsFrom (s3.heap.objs.size + 1) scope.names (cloFrom X.env.cells scope.names [])) fp
  have pt1 := ht1 s3 (upd H2 D (.dK [])) s3.heap.objs.size (cellsFrom (s3.heap.objs.size + 1) scope.names (cloFrom X.env.cells scope.names [])) fp
  show codeAny _ _ (.compStart (.DictComp kx vx [⟨tg, iter, ifs, 0⟩, ⟨tg1, iter1, ifs1, 0⟩] scope pos) 0 (.ref it) (.ref D) (compEnvC scope (cellsFrom (s3.heap.objs.size + 1) scope.names (cloFrom X.env.cells scope.names [])) s3.heap.objs.size X.env)) (compPost (model X.prog X.w) X.A X.xe use Qf (.ref D) s3.heap.objs.size) { s3 with heap := pushCells (s3.heap.push { cls := .type "dict", data := .dict #[] }) scope.names }
  have nfp : ∀ b ∈ fp, (upd H2 D (.dK [])) b = none := fun b hb => (f3 b hb).1.1
  generalize hce : compEnvC scope (cellsFrom (s3.heap.objs.size + 1) scope.names (cloFrom X.env.cells scope.names [])) s3.heap.objs.size X.env = ce at I4 pg pt pk pe pi1 pg1 pt1 ⊢
  have cL : ce.locals = s3.heap.objs.size := by subst hce; rfl
  generalize hH3 : upd H2 D (.dK []) = H3 at I3 I4 pg pt pk pe pi1 pg1 pt1 w0 nfp f3
  generalize hs4 : ({ s3 with heap := pushCells (s3.heap.push { cls := .type "dict", data := .dict #[] }) scope.names } : Shared) = s4 at I4 ⊢
  have st4 : tn 0 s4.heap := T.keep _ _ _ st3 fun b _ o e => by rw [← hs4]; exact pushCells_keeps _ _ _ _ (Heap.get?_push_of_some _ e)
  have stat : ∀ {σ' : L2.St} {H' : Hp} {s' : Shared}, Inv (X.blk s3 H3 scope ce fp) [] σ' H' s' → (∀ b ∈ fp, H' b = none) → ∀ b ∈ fp, FpOk (X.blk s3 H3 scope ce fp) [] H' b := fun {σ' H' s'} I' hn b hb =>
    ⟨hn b hb, (I'.ok.exf b hb).1, I'.ok.exfs b hb, .inl hb, fun x c e => (I'.ok.exf b hb).2 x c e, fun p hp => absurd (show p ∈ ([] : List (Addr × Obj)) ++ [] from hp) (by simp)⟩
  have loop : codeAny (model X.prog X.w) X.A (.compLoop (.DictComp kx vx [⟨tg, iter, ifs, 0⟩, ⟨tg1, iter1, ifs1, 0⟩] scope pos) 0 (.ref it) (.ref D) ce) (compPost (model X.prog X.w) X.A X.xe use Qf (.ref D) s3.heap.objs.size) s4 := by
    refine loop_out (hs1 ce) (fun n s' => ∃ i H', Inv (X.blk s3 H3 scope ce fp) [] (wipe σ (own.map (·.2))) H' s' ∧ tn i s'.heap ∧ (∀ b ∈ fp, H' b = none) ∧ W i n H') ?_ m0 ⟨0, H3, I4, st4, nfp, w0⟩
    rintro n s5 ⟨i, H5, I5, st5, n5, w5⟩
    rcases turn i n H5 w5 with ⟨stop, qq⟩ | ⟨go, Nx, hNx, step⟩
    · have td := T.done (X.blk s3 H3 scope ce fp) rfl rfl rfl hc i [] s5 _ H5 (fun _ _ => False) I5 (stat I5 n5) st5 stop
      refine thnF td fun r s6 ⟨hr, I6⟩ => ?_
      subst hr
      have I7 : Inv X pins σ H5 s6 := I3.call' (ch := fp) I6.os I6.base I6.hok I6.bare fun b hb => ⟨(f3 b hb).1.2.2.2.1, (f3 b hb).1.2.1, (f3 b hb).1.2.2.2.2.1, (f3 b hb).1.2.2.2.2.2⟩
      have nC : H5 s3.heap.objs.size = none := by
        have z : H5 ce.locals = none := I6.free
        rw [cL] at z
        exact z
      obtain ⟨m, hn, _⟩ := I6.loc
      have hn : s6.heap.Ns ce.locals m := hn
      rw [cL] at hn
      exact hRR D s3.heap.objs.size s6 m H5 I7 qq hn (I3.fpOk (Nat.le_refl _) nC)
    · have ti := T.item (X.blk s3 H3 scope ce fp) rfl rfl rfl hc i [] s5 _ H5 (fun _ _ => False) I5 (stat I5 n5) st5 go
      refine thnF ti fun r s6 ⟨u, hr, h6⟩ => ?_
      subst hr
      refine thnF h6 fun _ s7 ⟨x, H7, I7, r7, y7, st7, n7⟩ => ?_
      have I7' := I7.pinned (stat I7 n7) (T.obj _ _ st7)
      refine thnF (pg.run _ s7 _ H7 x u _ I7' r7 (step x H7 y7)) fun _ s8 ⟨σ8, H8, I8, hw8, q8⟩ => ?_
      refine thnF (pt.run _ s8 σ8 H8 _ I8 q8) fun b s9 ⟨H9, I9, q9⟩ => ?_
      have fin : ∀ {σ9 : L2.St} {s' : Shared} {H' : Hp}, Inv (X.blk s3 H3 scope ce fp) ([] ++ pinsAt fp s7.heap) σ9 H' s' → (wipe σ (own.map (·.2))).length = σ9.length → (∀ (j : Nat) v, (wipe σ (own.map (·.2)))[j]? = some (some v) → σ9[j]? = some (some v)) → Nx H' →
          ∃ m, m < n ∧ ∃ i H', Inv (X.blk s3 H3 scope ce fp) [] (wipe σ (own.map (·.2))) H' s' ∧ tn i s'.heap ∧ (∀ b ∈ fp, H' b = none) ∧ W i m H' := fun {σ9 s' H'} I' hl hk nx => by
        obtain ⟨m', hm, w'⟩ := hNx H' nx
        have pin' : ∀ b ∈ fp, ∀ o, s7.heap.get? b = some o → s'.heap.get? b = some o ∧ H' b = none := fun b hb o e =>
          let z := I'.pin (b, o) (List.mem_append_right _ (List.mem_append_right _ (mem_pinsAt hb e)))
          ⟨z.1, z.2.1⟩
        refine ⟨m', hm, i + 1, H', (I'.unpinned (pins := [])).weak hl hk, T.keep _ _ _ st7 fun b hb o e => (pin' b hb o e).1, fun b hb => ?_, w'⟩
        obtain ⟨o, e, _⟩ := T.obj _ _ st7 b hb
        exact (pin' b hb o e).2
      have hl8 : (wipe σ (own.map (·.2))).length = σ8.length := by rw [← hw8, wipe_length]
      have hk8 : ∀ (j : Nat) v, (wipe σ (own.map (·.2)))[j]? = some (some v) → σ8[j]? = some (some v) := fun j v e => by
        rw [← hw8] at e
        exact (wipe_some e).1
      have hk9 : ∀ (j : Nat) v, (wipe σ (own.map (·.2)))[j]? = some (some v) → (wipe σ8 vs1)[j]? = some (some v) := fun j v e => by
        rw [← hw8] at e
        obtain ⟨e1, e2⟩ := wipe_some e
        rw [wipe_out fun z => e2 (hv j z)]
        exact e1
      cases b with
      | false =>
        simp only [Bool.false_eq_true, if_false] at q9 ⊢
        exact fin I9 hl8 hk8 q9
      | true =>
        simp only [if_true] at q9 ⊢
        refine thnF (pi1.run _ s9 σ8 H9 _ I9 q9) fun xv s10 hx => thnF hx fun itv s11 h11 => ?_
        obtain ⟨it1, fp1, tn1, J1, H11, rfl, I11, T1, st11, f11, W1, ⟨m1, w1⟩, turn1⟩ := h11
        have stat1 : ∀ {H' : Hp}, (∀ b ∈ fp1, H' b = none) → ∀ b ∈ fp1, FpOk (X.blk s3 H3 scope ce fp) ([] ++ pinsAt fp s7.heap) H' b := fun hn b hb => ⟨hn b hb, (f11 b hb).2⟩
        have loop1 : codeAny (model X.prog X.w) X.A (.compLoop (.DictComp kx vx [⟨tg, iter, ifs, 0⟩, ⟨tg1, iter1, ifs1, 0⟩] scope pos) 1 (.ref it1) (.ref D) ce)
            (fun r s' => match r with
              | .ok _ => ∃ m, m < n ∧ ∃ i H', Inv (X.blk s3 H3 scope ce fp) [] (wipe σ (own.map (·.2))) H' s' ∧ tn i s'.heap ∧ (∀ b ∈ fp, H' b = none) ∧ W i m H'
              | .error _ => False) s11 := by
          refine loop_in (fun k s' => ∃ j H', Inv (X.blk s3 H3 scope ce fp) ([] ++ pinsAt fp s7.heap) (wipe σ8 vs1) H' s' ∧ tn1 j s'.heap ∧ (∀ b ∈ fp1, H' b = none) ∧ W1 j k H') ?_ m1 ⟨0, H11, I11.weak (wipe_length _ _) (fun j v e => (wipe_some e).1), st11, fun b hb => (f11 b hb).1, w1⟩
          rintro k s12 ⟨j, H12, I12, st12, n12, w12⟩
          rcases turn1 j k H12 w12 with ⟨stop1, nx1⟩ | ⟨go1, Nx1, hNx1, step1⟩
          · refine thnF (T1.done (X.blk s3 H3 scope ce fp) rfl rfl rfl hc j _ s12 (wipe σ8 vs1) H12 (fun _ _ => False) I12 (stat1 n12) st12 stop1) fun r s13 ⟨hr, I13⟩ => ?_
            subst hr
            exact fin I13 (hl8.trans (wipe_length σ8 vs1).symm) hk9 nx1
          · refine thnF (T1.item (X.blk s3 H3 scope ce fp) rfl rfl rfl hc j _ s12 (wipe σ8 vs1) H12 (fun _ _ => False) I12 (stat1 n12) st12 go1) fun r s13 ⟨u1, hr, h13⟩ => ?_
            subst hr
            refine thnF h13 fun _ s14 ⟨x1, H14, I14, r14, y14, st14, n14⟩ => ?_
            have I14' := I14.pinned (stat1 n14) (T1.obj _ _ st14)
            refine thnF (pg1.run _ s14 (wipe σ8 vs1) H14 x1 u1 _ I14' r14 (step1 x1 H14 y14)) fun _ s15 ⟨σ15, H15, I15, hw15, q15⟩ => ?_
            refine thnF (pt1.run _ s15 σ15 H15 _ I15 q15) fun b1 s16 ⟨H16, I16, q16⟩ => ?_
            have fin1 : ∀ {s' : Shared} {H' : Hp}, Inv (X.blk s3 H3 scope ce fp) (([] ++ pinsAt fp s7.heap) ++ pinsAt fp1 s14.heap) σ15 H' s' → Nx1 H' → ∃ m, m < k ∧ ∃ j H', Inv (X.blk s3 H3 scope ce fp) ([] ++ pinsAt fp s7.heap) (wipe σ8 vs1) H' s' ∧ tn1 j s'.heap ∧ (∀ b ∈ fp1, H' b = none) ∧ W1 j m H' := fun {s' H'} I' nx => by
              obtain ⟨m', hm, w'⟩ := hNx1 H' nx
              have pin' : ∀ b ∈ fp1, ∀ o, s14.heap.get? b = some o → s'.heap.get? b = some o ∧ H' b = none := fun b hb o e =>
                let z := I'.pin (b, o) (List.mem_append_right _ (List.mem_append_right _ (mem_pinsAt hb e)))
                ⟨z.1, z.2.1⟩
              refine ⟨m', hm, j + 1, H', I'.unpinned.weak (by rw [← hw15, wipe_length]) (fun j v e => by rw [← hw15] at e; exact (wipe_some e).1), T1.keep _ _ _ st14 fun b hb o e => (pin' b hb o e).1, fun b hb => ?_, w'⟩
              obtain ⟨o, e, _⟩ := T1.obj _ _ st14 b hb
              exact (pin' b hb o e).2
            cases b1 with
            | false =>
              simp only [Bool.false_eq_true, if_false] at q16 ⊢
              exact fin1 I16 q16
            | true =>
              simp only [if_true] at q16 ⊢
              refine thnF (pk.run _ s16 σ15 H16 _ I16 q16) fun z s17 ⟨yk, H17, I17, r17, q17⟩ => ?_
              refine thnF (pe.run _ s17 σ15 H17 _ I17 q17) fun z2 s18 ⟨yv, H18, I18, r18, kvs, k0, ek, hD18, hz18, nx⟩ => ?_
              subst ek
              exact d_dictSet (X := X.blk s3 H3 scope ce fp) I18 hD18 hz18 r17 r18 fun s19 I19 => fin1 I19 nx
        exact start_in loop1 (T1.self X.A 0 _ _ _ st11 loop1)
  exact codeAny_compStart_dict loop (T.self X.A 0 _ _ _ st4 loop)
/-- as a value -/
theorem pe_dc2 {kx vx tg iter tg1 iter1 : Expr} {ifs ifs1 : List Expr} {scope : Scope} {own : List (PySem.Str × Nat)} {vs1 : List Nat} {pos : Pos} {wi wi1 : TI} {g g1 : TG} {tt tt1 : TT} {tk tv : TE} (hc : X.calm = true) (hN : X.N.Nodup) (hi : PI X tg iter wi) (ok : BlkOk X.N X.env.scope scope own) (hv : ∀ i ∈ vs1, i ∈ own.map (·.2))
    (hg : ∀ (s : Shared) (H : Hp) (C : Addr) (cl : List (PySem.Str × Addr)) (fp : List Addr), PG (X.blk s H scope (compEnvC scope cl C X.env) fp) tg g) (ht : ∀ (s : Shared) (H : Hp) (C : Addr) (cl : List (PySem.Str × Addr)) (fp : List Addr), PTs (X.blk s H scope (compEnvC scope cl C X.env) fp) ifs tt) (hi1 : ∀ (s : Shared) (H : Hp) (C : Addr) (cl : List (PySem.Str × Addr)) (fp : List Addr), PI (X.blk s H scope (compEnvC scope cl C X.env) fp) tg1 iter1 wi1) (hg1 : ∀ (s : Shared) (H : Hp) (C : Addr) (cl : List (PySem.Str × Addr)) (fp : List Addr), PG (X.blk s H scope (compEnvC scope cl C X.env) fp) tg1 g1) (ht1 : ∀ (s : Shared) (H : Hp) (C : Addr) (cl : List (PySem.Str × Addr)) (fp : List Addr), PTs (X.blk s H scope (compEnvC scope cl C X.env) fp) ifs1 tt1)
    (hk : ∀ (s : Shared) (H : Hp) (C : Addr) (cl : List (PySem.Str × Addr)) (fp : List Addr), PE (X.blk s H scope (compEnvC scope cl C X.env) fp) kx tk) (he : ∀ (s : Shared) (H : Hp) (C : Addr) (cl : List (PySem.Str × Addr)) (fp : List Addr), PE (X.blk s H scope (compEnvC scope cl C X.env) fp) vx tv) (hs : ∀ x, foldedSetIterable iter X.env x = pure x := by intro _; rfl) (hs1 : ∀ env x, foldedSetIterable iter1 env x = pure x := by intro _ _; rfl) :
    PE X (.DictComp kx vx [⟨tg, iter, ifs, 0⟩, ⟨tg1, iter1, ifs1, 0⟩] scope pos) (tDc2 wi g tt wi1 g1 tt1 tk tv (own.map (·.2)) vs1) := by
  refine ⟨fun pins s σ H Q I h => ?_⟩
  rw [arm_eval_DictComp]
  refine dc2_core hc hN I hi ok hv hg ht hk he hs hi1 hg1 ht1 hs1 h fun D C s' m H' I' q hn f => ⟨m, hn, fun h'' sb => ?_⟩
  obtain ⟨f0, f1, f2, f3, f4, f5⟩ := f
  exact ⟨.ref D, H', I'.turned (t' := s'.toks) (fun b o hb e => (sb.2 b hb).trans e) f0 f1 f3 f4 f5, rfl, q⟩
end
end DD

set_option maxHeartbeats 4000000
/-! tuple * int, the int 0 or 1 too -/
namespace DT
open PySem PySem.Spec PyProof.Rows L2
theorem tuple_mul0 (l : Addr) (items : Array Value) (n : Nat) (dd : Option Addr) (sl : Array (Option Value)) (u : Tok) (c1 : items.isEmpty = false) :
    Meets (Builtin.«tuple.__mul__» ⟨[.ref l, .int 0 u], []⟩) (fun _ R s => s.heap.get? l = some { cls := .type "tuple", dict := dd, data := .seq items n, slots := sl } ∧
      R (.ok (.ret (Value.ref s.heap.objs.size))) { s with heap := s.heap.push { cls := Value.type "tuple", data := Data.seq #[] }, toks := s.toks }) :=
  .of_wp fun prog w A R s h => by
    obtain ⟨hp, g, d, tk, os⟩ := s
    obtain ⟨hl, h⟩ := h
    have f1 := AutoSeq1.idx_int
    have e1 : (decide ((0 : Int) < -(2 ^ 63)) || decide ((0 : Int) ≥ 2 ^ 63)) = false := by decide
    have e2 : (items.isEmpty || (0 : Int) == 1) = false := by rw [c1]; rfl
    have e3 : (decide ((0 : Int) ≤ 0) || items.isEmpty) = true := rfl
    have hsz : (#[] : Array Value).size ≤ sizeLine := Nat.zero_le _
    wp_walk using wpAny_loadPart' hl
    repeat (first
      | (refine wpAny_ite_false (decide_eq_false (by rw [e1]; exact Bool.false_ne_true)) ?_; wp_walk using wpAny_loadPart' hl)
      | (refine wpAny_ite_false (decide_eq_false (by rw [e2]; exact Bool.false_ne_true)) ?_; wp_walk using wpAny_loadPart' hl)
      | (refine wpAny_ite_true (decide_eq_true (by rw [e3])) ?_; wp_walk using wpAny_loadPart' hl)
      | (refine wpAny_ite_false (decide_eq_false (Nat.not_lt.mpr hsz)) ?_; wp_walk using wpAny_loadPart' hl))
    exact ⟨_, rfl, h⟩
theorem tuple_mul1 (l : Addr) (items : Array Value) (n : Nat) (dd : Option Addr) (sl : Array (Option Value)) (u : Tok) :
    Meets (Builtin.«tuple.__mul__» ⟨[.ref l, .int 1 u], []⟩) (fun _ R s => s.heap.get? l = some { cls := .type "tuple", dict := dd, data := .seq items n, slots := sl } ∧
      R (.ok (.ret (.ref l))) s) :=
  .of_wp fun prog w A R s h => by
    obtain ⟨hp, g, d, tk, os⟩ := s
    obtain ⟨hl, h⟩ := h
    have f1 := AutoSeq1.idx_int
    have e1 : (decide ((1 : Int) < -(2 ^ 63)) || decide ((1 : Int) ≥ 2 ^ 63)) = false := by decide
    have e2 : (items.isEmpty || (1 : Int) == 1) = true := by simp
    wp_walk using wpAny_loadPart' hl
    repeat (first
      | (refine wpAny_ite_false (decide_eq_false (by rw [e1]; exact Bool.false_ne_true)) ?_; wp_walk using wpAny_loadPart' hl)
      | (refine wpAny_ite_true (decide_eq_true (by rw [e2])) ?_; wp_walk using wpAny_loadPart' hl))
    exact ⟨_, rfl, h⟩
def rRepZ (K : PySem.W.Frag) : R2 := fun x y H Q => ∃ (l : Addr) (k : Int) (xs : List V), x = .ref l ∧ y = .int k ∧ SqT K H l xs ∧ xs ≠ [] ∧ 0 ≤ k ∧ k ≤ 1000 ∧ xs.length ≤ 1000 ∧ (k = 1 → Q (.ref l) H) ∧ (k ≠ 1 → ∀ p, H p = none → Q (.ref p) (upd H p (.tup (List.replicate k.toNat xs).flatten)))
theorem op_repZ {X : Cx} : OpR X (binaryOp .Mult) (rRepZ X.K) := by
  intro pins s σ H x y v u Q I rx ry h
  obtain ⟨l, k, xs, rfl, rfl, hT, hne, h1, h2, hz, q1, q2⟩ := h
  by_cases k2 : 2 ≤ k
  · exact op_repT pins s σ H _ _ v u Q I rx ry ⟨l, k, xs, rfl, rfl, hT, hne, k2, h2, hz, q2 (by omega)⟩
  cases rx
  obtain ⟨t, rfl⟩ := ry
  obtain ⟨its, r, ⟨⟨cls, dd, data, sl⟩, ho, hc, n, hd⟩, hs⟩ := I.tuple hT
  simp only at hc hd
  subst hc hd
  have hle : its.length = xs.length := r.length.symm
  have hi : its.toArray.isEmpty = false := by
    cases its with
    | nil => exact absurd (List.eq_nil_of_length_eq_zero hle.symm) hne
    | cons a b => rfl
  rcases (show k = 0 ∨ k = 1 by omega) with rfl | rfl
  · refine wpAny_binaryOp_repeat_ref (T := "tuple") (U := "int") (by decide) ⟨_, ho, rfl⟩ (fun s' => typeIs_int s' 0 t) noFill_tuple_mul F.fills_int_mul F.slot_int_rmul repeat_tuple F.slot_int_index.lookup
      (call_meets F.slot_int_rmul (typeIs_int s 0 t) F.entry_int_rmul (F.args_int_rmul_2 _ _) (int_rmul_tuple 0 t l its.toArray n dd sl)
        ⟨ho, rfl, ⟨_, ho, rfl⟩, call_meets F.slot_tuple_mul ⟨_, ho, rfl⟩ F.entry_tuple_mul (F.args_tuple_mul_2 _ _) (tuple_mul0 l its.toArray n dd sl t hi) ⟨ho, ?_⟩⟩)
    refine ⟨.ref s.heap.objs.size, _, I.laid (t' := s.toks) (o := .tup []) (fun b ob q => Heap.get?_push_of_some _ q) (Nat.le_refl _) ?_, rfl, q2 (by decide) _ (I.hok.fresh (Nat.le_refl _))⟩
    exact ⟨Nat.zero_le _, [], .nil, IsTup.new _ _⟩
  · refine wpAny_binaryOp_repeat_ref (T := "tuple") (U := "int") (by decide) ⟨_, ho, rfl⟩ (fun s' => typeIs_int s' 1 t) noFill_tuple_mul F.fills_int_mul F.slot_int_rmul repeat_tuple F.slot_int_index.lookup
      (call_meets F.slot_int_rmul (typeIs_int s 1 t) F.entry_int_rmul (F.args_int_rmul_2 _ _) (int_rmul_tuple 1 t l its.toArray n dd sl)
        ⟨ho, rfl, ⟨_, ho, rfl⟩, call_meets F.slot_tuple_mul ⟨_, ho, rfl⟩ F.entry_tuple_mul (F.args_tuple_mul_2 _ _) (tuple_mul1 l its.toArray n dd sl t) ⟨ho, ?_⟩⟩)
    exact ⟨.ref l, H, I, rfl, q1 rfl⟩
end DT

/-! the text by places; what the top leaves; the purse; a method called by keywords -/
namespace DL
open PySem L2

/-! ### the text by places -/
def top (i : Nat) : Stmt := PySem.Challenge.pw_doorlots_k64_whole_castle_distances.main.body.getD i (.Pass ⟨0, 0, 0, 0⟩)
abbrev sInt : Stmt := top 21
abbrev sCol : Stmt := top 22
abbrev sDoor : Stmt := top 23
abbrev sChkHouse : Stmt := top 24
abbrev sChkHall : Stmt := top 25
abbrev sEndsOf : Stmt := top 27
abbrev sReached : Stmt := top 28
abbrev sHouseInit : Stmt := inClass (top 29) 0
abbrev sColours : Stmt := inClass (top 29) 5
abbrev sChkEnds : Stmt := top 31
abbrev sDistFrom : Stmt := top 32
abbrev sDist : Stmt := top 33
abbrev sChkParts : Stmt := top 39
abbrev sChkAddr : Stmt := top 40
abbrev sCastleInit : Stmt := inClass (top 41) 0
abbrev sOrigin : Stmt := inClass (top 41) 6
abbrev sCDist : Stmt := inClass (top 41) 10
abbrev sPurse : Stmt := top 43
abbrev sDraw : Stmt := top 44
abbrev sWords : Stmt := top 45
abbrev sPart : Stmt := top 46
abbrev sRenum : Stmt := top 47
abbrev sCrossed : Stmt := top 48
abbrev sDoors : Stmt := top 49
abbrev sHouse : Stmt := top 50
abbrev sParts : Stmt := top 51
abbrev sWide : Stmt := top 52
abbrev sOwners : Stmt := top 53
abbrev sLed : Stmt := top 54
abbrev sAddr : Stmt := top 55
abbrev sLines : Stmt := top 56
abbrev sScene : Stmt := top 57
abbrev sCastle : Stmt := top 58
abbrev sKnown : Stmt := top 59
abbrev sFar : Stmt := top 60
abbrev sApart : Stmt := top 61
abbrev sIs : Stmt := top 62
abbrev sRight : Stmt := top 63
abbrev sLaw : Stmt := top 64

/-- what the top leaves -/
structure Txt (K : PySem.W.Frag) (mg : Str → Option Value) (CH CC : Addr) : Prop where
  zisi : mg "isinstance" = none
  zint : mg "int" = none
  zbool : mg "bool" = none
  ztuple : mg "tuple" = none
  zstr : mg "str" = none
  zlen : mg "len" = none
  zall : mg "all" = none
  zsorted : mg "sorted" = none
  zenum : mg "enumerate" = none
  zrange : mg "range" = none
  zzip : mg "zip" = none
  zsum : mg "sum" = none
  zmax : mg "max" = none
  zmin : mg "min" = none
  zset : mg "set" = none
  zlist : mg "list" = none
  gHalls : ∃ t, mg "MOST_HALLS" = some (.int 64 t)
  gColours : ∃ t, mg "MOST_COLOURS" = some (.int 16 t)
  gParts : ∃ t, mg "MOST_PARTS" = some (.int 72 t)
  gLetters : ∃ t, mg "LETTERS" = some (.str "abcdefghijklmnopqrstuvwxyz" t)
  gHouse : mg "House" = some (.ref CH)
  gCastle : mg "Castle" = some (.ref CC)
  cH : Cls K CH
  cC : Cls K CC
  nEnds : NoAttr K CH "ends"
  nHalls : NoAttr K CH "halls"
  nDoors : NoAttr K CH "doors"
  nParts : NoAttr K CC "parts"
  nPartOf : NoAttr K CC "part_of"
  isiH : C8.InsC K CH

/-! ### a method called by keywords alone -/
section
variable {X : Cx} {CX : CXT} {k : Nat} {f C : Addr} {fd : FuncData} {ps ks : List Str} {sp : Sp} {E : XK} {m : Str} {pos apos : Pos} {o : Expr} {kws : List Keyword} {ta : TE} {tk : TA} {g : List Value → List Value → List Value} {gV : List V → List V → List V}
def tMethK (C : Addr) (m : Str) (sp : Sp) (gV : List V → List V → List V) (E : XK) (ta : TE) (tk : TA) : TE := fun σ H Q => ta σ H fun x H1 => ∃ a dx fs, x = .ref a ∧ H1 a = some (.ins C dx fs) ∧ fs.lookup m = none ∧
  tk σ H1 fun zs H2 => sp (gV [x] zs) H2 Q E
theorem pe_methK {pl : Sem Bool} (he : PE X o ta) (c : Cls X.K C) (hm : Meth X.K C m f) (F : FnOk X.prog X.w X.K X.mg X.base CX k f fd ps sp) (hr : Room k X.A) (hb : KBinds X.K fd ps ks g gV) (hx : Passes CX X E) (hkw : PK X kws tk)
    (hall : (backToKw pos (keywordEach kws X.env)).all (·.1.isSome) = true := by rfl) (hks : (backToKw pos (keywordEach kws X.env)).filterMap (·.1) = ks := by rfl)
    (hpl : ((backTo pos (starEach [] X.env)).any (·.1) || (backToKw pos (keywordEach kws X.env)).any (·.1.isNone)) = false := by rfl)
    (ht : eval (.Call (.Attribute o m apos) [] kws pos) X.env = (do
      let ov ← eval o X.env
      standAt apos.atName
      let (f, first) ← holding [ov] (getMethod ov m pl)
      callWith pos f first (backTo pos (starEach [] X.env)) (backToKw pos (keywordEach kws X.env))) := by rfl) :
    PE X (.Call (.Attribute o m apos) [] kws pos) (tMethK C m sp gV E ta tk) := by
  refine ⟨fun pins s σ H Q I h => ?_⟩
  refine PySem.W.methodCall_KW (pl := pl) (thn (he.run pins s σ H _ I h) fun u s1 ⟨x, H1, I1, rx, a, dx, fs, ex, ea, l, q⟩ => ?_) ht
  subst ex
  obtain rfl : u = Value.ref a := rx
  refine getmeth_ok I1 ea c hm l ?_
  refine PySem.W.callWith_KW0 (first := [.ref a]) (h₀ := X.base) I.ok.mod.kin hm.kp hall ?_ hpl
  refine thn (hkw.run pos pins s1 σ H1 _ I1 q) fun ws s2 ⟨zs, H2, I2, rz, q2⟩ => ⟨I2.kIn, ?_⟩
  rw [hks]
  exact run_fnk (us := [.ref a]) (vs := [.ref a]) F hr hb hx I2 (.cons rfl .nil) rz q2
end

/-! ### a def, a method, a class that may be called -/
structure Cal (P : Program) (w : World) (K : PySem.W.Frag) (mg : Str → Option Value) (base : Heap) (k : Nat) (x : Str) (sp : Sp) : Prop where
  ex : ∃ (f : Addr) (fd : FuncData) (ps : List Str), FnOk P w K mg base CX0 k f fd ps sp ∧ mg x = some (.ref f) ∧ PySem.W.keepIn K (.ref f) = true ∧ Binds K fd ps []
structure Met (P : Program) (w : World) (K : PySem.W.Frag) (mg : Str → Option Value) (base : Heap) (k : Nat) (C : Addr) (m : Str) (sp : Sp) : Prop where
  ex : ∃ (f : Addr) (fd : FuncData) (ps : List Str), Cls K C ∧ Meth K C m f ∧ FnOk P w K mg base CX0 k f fd ps sp ∧ Binds K fd ps []
structure Mak (P : Program) (w : World) (K : PySem.W.Frag) (mg : Str → Option Value) (base : Heap) (k : Nat) (x : Str) (C : Addr) (sp : Sp) : Prop where
  ex : ∃ (f : Addr) (fd : FuncData) (ps : List Str), Mk K C f ∧ FnOk P w K mg base CX0 k f fd ps sp ∧ mg x = some (.ref C) ∧ Binds K fd ps []
section
variable {X : Cx} {k j : Nat} {C : Addr} {x m : Str} {sp : Sp} {p pos apos : Pos} {e o : Expr} {es : List Expr} {ta : TE} {t : TA}
theorem pe_c (c : Cal X.prog X.w X.K X.mg X.base k x sp) (hr : Room j X.A) (hk : k ≤ j) (hg : Gl X x) (ha : PA X (e :: es) t)
    (hdb : (x == ("__debug__" : Str)) = false := by decide) (he : starEach (e :: es) X.env = (false, eval e X.env) :: starEach es X.env := by rfl) (hpl : (backTo pos (starEach es X.env)).any (·.1) = false := by rfl) :
    PE X (.Call (.Name x p) (e :: es) [] pos) (tCall sp [] E0 t) := by
  obtain ⟨f, fd, ps, F, hm, kp, b⟩ := c.ex
  exact pe_call F (hr.mono hk) hg hm kp b .nil pass0 ha hdb he hpl
theorem pe_mk (c : Mak X.prog X.w X.K X.mg X.base k x C sp) (hr : Room j X.A) (hk : k + 1 ≤ j) (hg : Gl X x) (ha : PA X (e :: es) t)
    (hdb : (x == ("__debug__" : Str)) = false := by decide) (he : starEach (e :: es) X.env = (false, eval e X.env) :: starEach es X.env := by rfl) (hpl : (backTo pos (starEach es X.env)).any (·.1) = false := by rfl) :
    PE X (.Call (.Name x p) (e :: es) [] pos) (tMake C sp [] E0 t) := by
  obtain ⟨f, fd, ps, M, F, hm, b⟩ := c.ex
  exact pe_make M F (hr.mono hk) hg hm b .nil pass0 ha hdb he hpl
theorem pe_mt {pl : Sem Bool} (c : Met X.prog X.w X.K X.mg X.base k C m sp) (hr : Room j X.A) (hk : k ≤ j) (he : PE X o ta) (ha : PA X (e :: es) t)
    (hst : starEach (e :: es) X.env = (false, eval e X.env) :: starEach es X.env := by rfl) (hpl : (backTo pos (starEach es X.env)).any (·.1) = false := by rfl)
    (ht : eval (.Call (.Attribute o m apos) (e :: es) [] pos) X.env = (do
      let ov ← eval o X.env
      standAt apos.atName
      let (f, first) ← holding [ov] (getMethod ov m pl)
      callWith pos f first (backTo pos (starEach (e :: es) X.env)) (backToKw pos (keywordEach [] X.env))) := by rfl) :
    PE X (.Call (.Attribute o m apos) (e :: es) [] pos) (tMeth C m sp [] E0 ta t) := by
  obtain ⟨f, fd, ps, hc, hm, F, b⟩ := c.ex
  exact pe_meth (pl := pl) he hc hm F (hr.mono hk) b .nil pass0 ha hst hpl ht
theorem pe_mt0 {pl : Sem Bool} (c : Met X.prog X.w X.K X.mg X.base k C m sp) (hr : Room j X.A) (hk : k ≤ j) (he : PE X o ta)
    (ht : eval (.Call (.Attribute o m apos) [] [] pos) X.env = (do
      let ov ← eval o X.env
      standAt apos.atName
      let (f, first) ← holding [ov] (getMethod ov m pl)
      callWith pos f first (backTo pos (starEach [] X.env)) (backToKw pos (keywordEach [] X.env))) := by rfl) :
    PE X (.Call (.Attribute o m apos) [] [] pos) (tMeth C m sp [] E0 ta tNil) := by
  obtain ⟨f, fd, ps, hc, hm, F, b⟩ := c.ex
  exact pe_meth0 (pl := pl) he hc hm F (hr.mono hk) b .nil pass0 ht
end

/-- a clause without a test -/
theorem tyes {σ : L2.St} {H : Hp} {F G : Hp → Prop} (h : F H) : tYes σ H (fun b H3 => if b = true then F H3 else G H3) := by
  show if true = true then F H else G H
  rw [if_pos rfl]
  exact h

/-! ### heaps -/
theorem same_upd {H : Hp} {p : Addr} {o : HO} (h : H p = none) : Same H (upd H p o) := fun b x e => by
  rw [upd_ne (ne_of_none e h)]
  exact e
theorem some_ne {H : Hp} {a b : Addr} {o u : HO} (h : H a = some o) (h' : H b = some u) (d : o ≠ u) : a ≠ b := ne_of h h' d

/-- a purse: two numbers, of which the one is used up by division, the other goes round -/
def PurseOk (x y : Int) : Prop := 0 ≤ x ∧ 0 ≤ y ∧ y ≤ 2147483629
def Purse (H : Hp) (p : Addr) : Prop := ∃ x y, H p = some (.lst [.int x, .int y]) ∧ PurseOk x y
/-- all but p is as it was, p is a purse -/
structure Kp (p : Addr) (H H' : Hp) : Prop where
  keep : ∀ b o, H b = some o → b ≠ p → H' b = some o
  pur : Purse H' p
theorem Kp.refl {p : Addr} {H : Hp} (h : Purse H p) : Kp p H H := ⟨fun _ _ e _ => e, h⟩
theorem Kp.trans {p : Addr} {H H1 H2 : Hp} (a : Kp p H H1) (b : Kp p H1 H2) : Kp p H H2 := ⟨fun c o e n => b.keep c o (a.keep c o e n) n, b.pur⟩
theorem Kp.same {p : Addr} {H H1 H2 : Hp} (a : Kp p H H1) (b : Same H1 H2) : Kp p H H2 := ⟨fun c o e n => b c o (a.keep c o e n), by
  obtain ⟨x, y, h, r⟩ := a.pur
  exact ⟨x, y, b _ _ h, r⟩⟩
theorem Kp.of_same {p : Addr} {H H1 H2 : Hp} (a : Same H H1) (b : Kp p H1 H2) : Kp p H H2 := ⟨fun c o e n => b.keep c o (a c o e) n, b.pur⟩
theorem Kp.free {p : Addr} {H H' : Hp} (a : Kp p H H') {q : Addr} (h : H' q = none) : H q = none := by
  have np : q ≠ p := fun e => by
    obtain ⟨x, y, hp, _⟩ := a.pur
    rw [← e, h] at hp
    cases hp
  cases e : H q with
  | none => rfl
  | some o =>
    have := a.keep q o e np
    rw [h] at this
    cases this
theorem Kp.ne {p : Addr} {H H' : Hp} (a : Kp p H H') {q : Addr} (h : H' q = none) : q ≠ p := fun e => by
  obtain ⟨x, y, hp, _⟩ := a.pur
  rw [← e, h] at hp
  cases hp
theorem Purse.same {p : Addr} {H H' : Hp} (h : Purse H p) (s : Same H H') : Purse H' p := by
  obtain ⟨x, y, e, r⟩ := h
  exact ⟨x, y, s _ _ e, r⟩
/-- what is no list of two ints is not the purse -/
theorem Purse.ne {p a : Addr} {H : Hp} {o : HO} (h : Purse H p) (e : H a = some o) (d : ∀ x y, o ≠ .lst [.int x, .int y]) : a ≠ p := by
  obtain ⟨x, y, hp, _⟩ := h
  exact ne_of e hp (d x y)
theorem Kp.at {p a : Addr} {H H' : Hp} {o : HO} (k : Kp p H H') (h : Purse H p) (e : H a = some o) (d : ∀ x y, o ≠ .lst [.int x, .int y]) : H' a = some o := k.keep a o e (h.ne e d)
end DL

/-! the program's small defs -/
namespace DL
open PySem L2 DI

section
variable {P : Program} {w : World} {K : PySem.W.Frag} {mg : Str → Option Value} {base : Heap} {CH CC : Addr}

/-! ### is_integer -/
def spInt : Sp := fun vs H Q _ => ∃ n lo hi : Int, vs = [.int n, .int lo, .int hi] ∧ Q (.bl (decide (lo ≤ n ∧ n ≤ hi))) H
theorem scInt : FnScope ["value", "least", "most"] ["value", "least", "most"] (defScope sInt) := ⟨rfl, rfl, rfl, by decide +kernel, rfl, by decide +kernel, by decide +kernel⟩
theorem ok_int {f : Addr} {fd : FuncData} (F : L2.Fun K "is_integer" "is_integer" sInt f fd) (T : Txt K mg CH CC) : FnOk P w K mg base CX0 1 f fd ["value", "least", "most"] spInt := by
  refine F.ok scInt (fun vs H Q E h => ?_) (fun cdv A outer s H vs Q E hr h => ?_)
  · obtain ⟨n, lo, hi, rfl, _⟩ := h
    rfl
  · obtain ⟨n, lo, hi, rfl, q⟩ := h
    refine ⟨_, pss_one (ps_ret (pe_and (pe_callB call_isi (by rfl) T.zisi PyProof.Rows.boot_isinstance (pa_cons (pv 0) (pa_cons (pe_bltn (v := .ty "int") (by rfl) T.zint PyProof.Rows.boot_int rfl) pa_nil)))
      (pe_and (pe_not (pe_callB call_isi (by rfl) T.zisi PyProof.Rows.boot_isinstance (pa_cons (pv 0) (pa_cons (pe_bltn (v := .ty "bool") (by rfl) T.zbool PyProof.Rows.boot_bool rfl) pa_nil))))
        (pe_one (pe_chain op_le op_le (pv 1) (pv 0) (pv 2)))))), ?_⟩
    refine ⟨_, rfl, _, _, _, _, true, rfl, .ty "int", .base (.int n), kit_ty (by decide +kernel), true, rfl, iteT ?_⟩
    refine ⟨_, rfl, _, _, _, _, false, rfl, .ty "bool", .base (.int n), kit_ty (by decide +kernel), false, rfl, true, rfl, iteT ?_⟩
    refine ⟨_, rfl, _, rfl, _, _, rfl, rfl, _, rfl, ?_⟩
    by_cases h1 : lo ≤ n
    · rw [if_pos (decide_eq_true h1)]
      refine ⟨_, rfl, _, _, rfl, rfl, ?_⟩
      have e : decide (n ≤ hi) = decide (lo ≤ n ∧ n ≤ hi) := by
        by_cases h2 : n ≤ hi
        · rw [decide_eq_true h2, decide_eq_true ⟨h1, h2⟩]
        · rw [decide_eq_false h2, decide_eq_false fun z => h2 z.2]
      show Q (.bl (decide (n ≤ hi))) H
      rw [e]
      exact q
    · rw [if_neg (by simp [h1])]
      have e : false = decide (lo ≤ n ∧ n ≤ hi) := (decide_eq_false fun z => h1 z.1).symm
      show Q (.bl false) H
      rw [e]
      exact q

/-! ### is_colour -/
/-- a colour: one to six letters -/
def Colour (c : Str) : Prop := 1 ≤ c.length ∧ c.length ≤ 6 ∧ ∀ x ∈ c.cps.toList, 97 ≤ x ∧ x ≤ 122
theorem letter_in : ∀ x : Nat, 97 ≤ x → x ≤ 122 → x ∈ (("abcdefghijklmnopqrstuvwxyz" : Str).cps.toList) := by
  intro x h1 h2
  have q : ∀ k : Fin 26, 97 + k.val ∈ (("abcdefghijklmnopqrstuvwxyz" : Str).cps.toList) := by decide +kernel
  have := q ⟨x - 97, by omega⟩
  have e : 97 + (x - 97) = x := by omega
  rw [e] at this
  exact this
def spCol : Sp := fun vs H Q _ => ∃ c : Str, vs = [.str c] ∧ Colour c ∧ ∀ H', Same H H' → Q (.bl true) H'
theorem scCol : FnScope ["value", "letter"] ["value"] (defScope sCol) := ⟨rfl, rfl, rfl, by decide +kernel, rfl, by decide +kernel, by decide +kernel⟩
theorem ok_col {f : Addr} {fd : FuncData} (F : L2.Fun K "is_colour" "is_colour" sCol f fd) (T : Txt K mg CH CC) : FnOk P w K mg base CX0 1 f fd ["value"] spCol := by
  refine F.ok scCol (fun vs H Q E h => ?_) (fun cdv A outer s H vs Q E hr h => ?_)
  · obtain ⟨c, rfl, _⟩ := h
    rfl
  · obtain ⟨c, rfl, ⟨c1, c2, c3⟩, q⟩ := h
    obtain ⟨tl, hl⟩ := T.gLetters
    refine ⟨_, pss_cons (ps_if (PW.pt (pw_or (pt_not (pt_val (pe_callB call_isi (by rfl) T.zisi PyProof.Rows.boot_isinstance (pa_cons (pv 0) (pa_cons (pe_bltn (v := .ty "str") (by rfl) T.zstr PyProof.Rows.boot_str rfl) pa_nil)))))
        (pw_or1 (pt_not (pt_chain op_le op_le pe_int (pe_callB call_len_str (by rfl) T.zlen boot_len (pa_cons (pv 0) pa_nil)) pe_int))))) (pss_one (ps_ret pe_bl)) pss_nil)
      (pss_one (ps_ret (pe_callB (cr_all rfl) (by rfl) T.zall PyProof.Rows.boot_all (pa_cons
        (pe_lc (own := [("letter", 1)]) (g := gName 1) (tt := tYes) rfl scCol.nd (pi_str (pv 0)) (blkOk_by (N := ["value", "letter"]) (sc := defScope sCol) (by decide +kernel)) (fun _ _ _ _ _ => pg_name (i := 1) scCol.nd rfl (Or.inl rfl)) (fun _ _ _ _ _ => pts_nil)
          (fun _ _ _ _ _ => pe_cmpR op_in_sign (pv 1) (pe_glob (v := .str "abcdefghijklmnopqrstuvwxyz") (by rfl) hl ⟨_, rfl⟩) rfl)) pa_nil)))), ?_⟩
    have c2' : c.length ≤ sizeLine := Nat.le_trans c2 (by decide)
    refine ⟨_, rfl, _, _, _, _, true, rfl, .ty "str", .base (.str c), kit_ty (by decide +kernel), true, rfl, iteF ?_⟩
    refine ⟨_, rfl, _, rfl, c2', _, _, rfl, rfl, _, rfl, ?_⟩
    rw [if_pos (decide_eq_true (by omega))]
    refine ⟨_, _, rfl, rfl, _, rfl, ?_⟩
    have e1 : decide (((c.length : Nat) : Int) ≤ 6) = true := decide_eq_true (by omega)
    rw [e1]
    refine iteF ?_
    refine ⟨_, rfl, c, rfl, fun D hD => ?_⟩
    refine lc_gen (J := Its c) (n := c.cps.size) (fun i H' => Same H H' ∧ H' D = some (.lst ((List.replicate i true).map V.bl))) ⟨same_upd hD, upd_same⟩ (fun i H' hi _ => hi) (fun H' _ => Nat.le_refl _) ?_ ?_
    · rintro i x H1 H2 hi ⟨sm, hd⟩ ⟨rfl, ch, hc, rfl⟩
      refine ⟨rfl, tyes ?_⟩
      have hin : ch ∈ (("abcdefghijklmnopqrstuvwxyz" : Str).cps.toList) := by
        have := c3 ch (by rw [← Array.getElem?_toList] at hc; exact List.mem_of_getElem? hc)
        exact letter_in ch this.1 this.2
      refine ⟨_, rfl, ch, _, rfl, rfl, ?_⟩
      refine ⟨_, hd, ?_, fun b o e => ?_, ?_⟩
      · rw [List.length_map, List.length_replicate]
        have : c.length = c.cps.size := rfl
        omega
      · rw [upd_ne (ne_of_none e hD)]
        exact sm b o e
      · rw [upd_same, decide_eq_true hin, List.replicate_succ', List.map_append]
        rfl
    · rintro H1 ⟨sm, hd⟩
      refine ⟨D, _, rfl, .inl (.inl hd), ?_⟩
      have e : (List.replicate c.cps.size true).all id = true := List.all_eq_true.mpr fun b hb => by
        rw [List.eq_of_mem_replicate hb]
        rfl
      rw [e]
      exact q _ sm
end
end DL

/-! what stands in the heap for a house: its ends as a dict, its doors as a tuple -/
namespace DL
open PySem L2 DO

/-! ### all that is no list and no empty instance stays -/
def NL : HO → Prop
  | .lst _ => False
  | .ins _ _ fs => fs ≠ []
  | _ => True
def Le (H H' : Hp) : Prop := ∀ b o, H b = some o → NL o → H' b = some o
theorem Le.refl (H : Hp) : Le H H := fun _ _ h _ => h
theorem Le.trans {H H1 H2 : Hp} (a : Le H H1) (b : Le H1 H2) : Le H H2 := fun c o h n => b c o (a c o h n) n
theorem Le.of_same {H H' : Hp} (s : Same H H') : Le H H' := fun b o h _ => s b o h
theorem Le.made {H H' : Hp} {x C dx : Addr} (hx : H x = some (.ins C dx [])) (k : ∀ b o, H b = some o → b ≠ x → H' b = some o) : Le H H' := fun b o e n => k b o e fun z => by
  rw [z, hx] at e
  rw [← Option.some.inj e] at n
  exact n rfl
theorem Le.of_kp {p : Addr} {H H' : Hp} (k : Kp p H H') (h : Purse H p) : Le H H' := fun b o e n => k.keep b o e (h.ne e fun x y z => by rw [z] at n; exact n)

/-! ### the ends -/
abbrev Ends := Nat → Str → Option Nat
abbrev EKey (h : Nat) (c : Str) : List Key := [.inl (h : Int), .inr c]
structure Rep (kvs : List (List Key × V)) (E : Ends) : Prop where
  nd : (kvs.map (·.1)).Nodup
  val : ∀ (h : Nat) (c : Str), valV kvs (EKey h c) = (E h c).map fun x : Nat => V.int (x : Int)
  ent : ∀ p ∈ kvs, ∃ (h : Nat) (c : Str) (x : Nat), p = (EKey h c, V.int (x : Int))
theorem ekey_inj {h h' : Nat} {c c' : Str} (e : EKey h c = EKey h' c') : h = h' ∧ c = c' := by
  injection e with e1 e2
  injection e2 with e2 _
  have a := Sum.inl.inj e1
  have b := Sum.inr.inj e2
  exact ⟨by omega, b⟩
theorem Rep.nil : Rep [] (fun _ _ => none) := ⟨List.nodup_nil, fun _ _ => rfl, fun _ h => nomatch h⟩
theorem keys_putK {κ : Type} [DecidableEq κ] (kvs : List (κ × V)) (k : κ) (v : V) : (putK kvs k v).map (·.1) = if (valV kvs k).isSome then kvs.map (·.1) else kvs.map (·.1) ++ [k] := by
  unfold putK
  rw [valV_any]
  split
  · rw [List.map_map]
    refine List.map_congr_left fun p _ => ?_
    show (if p.1 = k then (p.1, v) else p).1 = p.1
    split <;> rfl
  · rw [List.map_append]
    rfl
theorem nd_put {κ : Type} [DecidableEq κ] {kvs : List (κ × V)} {k : κ} {v : V} (h : (kvs.map (·.1)).Nodup) : ((putK kvs k v).map (·.1)).Nodup := by
  rw [keys_putK]
  split
  · exact h
  · rename_i q
    refine nd_snoc h (valV_not ?_)
    cases e : valV kvs k with
    | none => rfl
    | some x => rw [e] at q; exact absurd rfl q
theorem mem_putK {κ : Type} [DecidableEq κ] {kvs : List (κ × V)} {k : κ} {v : V} {p : κ × V} (h : p ∈ putK kvs k v) : p ∈ kvs ∨ p = (k, v) := by
  unfold putK at h
  split at h
  · obtain ⟨q, hq, e⟩ := List.mem_map.mp h
    split at e
    · rename_i z
      right
      rw [← e, z]
    · left
      rw [← e]
      exact hq
  · rcases List.mem_append.mp h with q | q
    · exact .inl q
    · exact .inr (List.mem_singleton.mp q)
theorem Rep.put {kvs : List (List Key × V)} {E : Ends} (R : Rep kvs E) (h : Nat) (c : Str) (x : Nat) : Rep (putK kvs (EKey h c) (.int (x : Int))) (Dm.put E h c x) where
  nd := nd_put R.nd
  val := fun h' c' => by
    rw [valV_put]
    unfold Dm.put
    by_cases e : h' = h ∧ c' = c
    · obtain ⟨rfl, rfl⟩ := e
      rw [if_pos rfl, if_pos ⟨rfl, rfl⟩]
      rfl
    · rw [if_neg (fun q => e (ekey_inj q)), if_neg e]
      exact R.val h' c'
  ent := fun p hp => by
    rcases mem_putK hp with q | q
    · exact R.ent p q
    · exact ⟨h, c, x, q⟩
theorem valV_of_mem {κ : Type} [DecidableEq κ] {k : κ} {v : V} : ∀ {kvs : List (κ × V)}, (kvs.map (·.1)).Nodup → (k, v) ∈ kvs → valV kvs k = some v
  | [], _, m => by cases m
  | p :: r, h, m => by
    have h : (p.1 :: r.map (·.1)).Nodup := h
    obtain ⟨h1, h2⟩ := List.nodup_cons.mp h
    rcases List.mem_cons.mp m with e | e
    · subst e
      exact valV_pos rfl
    · rw [valV_neg fun q => h1 (by rw [q]; exact List.mem_map.mpr ⟨(k, v), e, rfl⟩)]
      exact valV_of_mem h2 e
theorem mem_of_valV {κ : Type} [DecidableEq κ] {kvs : List (κ × V)} {k : κ} {v : V} (h : valV kvs k = some v) : (k, v) ∈ kvs := by
  unfold valV at h
  cases q : kvs.find? fun kv => decide (kv.1 = k) with
  | none => rw [q] at h; cases h
  | some p =>
    rw [q] at h
    have e1 := List.find?_some q
    have e2 := List.mem_of_find?_eq_some q
    have e3 : p.1 = k := of_decide_eq_true e1
    have e4 : p.2 = v := Option.some.inj h
    rw [← e3, ← e4]
    exact e2
theorem Rep.at {kvs : List (List Key × V)} {E : Ends} (R : Rep kvs E) {h x : Nat} {c : Str} (m : (EKey h c, V.int (x : Int)) ∈ kvs) : E h c = some x := by
  have e := valV_of_mem R.nd m
  rw [R.val] at e
  cases q : E h c with
  | none => rw [q] at e; cases e
  | some y =>
    rw [q] at e
    have e : V.int (y : Int) = V.int (x : Int) := Option.some.inj e
    injection e with e
    rw [show y = x by omega]
theorem Rep.mem {kvs : List (List Key × V)} {E : Ends} (R : Rep kvs E) {h x : Nat} {c : Str} (e : E h c = some x) : (EKey h c, V.int (x : Int)) ∈ kvs := mem_of_valV (by rw [R.val, e]; rfl)
theorem Rep.get {kvs : List (List Key × V)} {E : Ends} (R : Rep kvs E) {i : Nat} {p : List Key × V} (e : kvs[i]? = some p) : ∃ (h : Nat) (c : Str) (x : Nat), p = (EKey h c, V.int (x : Int)) ∧ E h c = some x := by
  have m := List.mem_of_getElem? e
  obtain ⟨h, c, x, rfl⟩ := R.ent p m
  exact ⟨h, c, x, rfl, R.at m⟩

/-- a house as the law makes it: its colours are among the words ws -/
structure Good (N : Nat) (ws : List Str) (E : Ends) : Prop where
  g : Dm.House N (fun c => c ∈ ws) E
  le : N ≤ 64

/-! ### a House object -/
def hf (e : Addr) (n : Int) (t : Addr) : List (Str × V) := putF "doors" (.ref t) (putF "halls" (.int n) (putF "ends" (.ref e) []))
theorem hf_doors (e t : Addr) (n : Int) : (hf e n t).lookup ("doors" : Str) = some (.ref t) := by
  unfold hf
  rw [lookup_putF, if_pos rfl]
theorem hf_halls (e t : Addr) (n : Int) : (hf e n t).lookup ("halls" : Str) = some (.int n) := by
  unfold hf
  rw [lookup_putF, if_neg (by decide +kernel), lookup_putF, if_pos rfl]
theorem hf_ends (e t : Addr) (n : Int) : (hf e n t).lookup ("ends" : Str) = some (.ref e) := by
  unfold hf
  rw [lookup_putF, if_neg (by decide +kernel), lookup_putF, if_neg (by decide +kernel), lookup_putF, if_pos rfl]
theorem hf_ne (e t : Addr) (n : Int) : hf e n t ≠ [] := fun z => by
  have := hf_doors e t n
  rw [z] at this
  cases this
theorem hf_no (e t : Addr) (n : Int) {m : Str} (h1 : ¬ m = "doors") (h2 : ¬ m = "halls") (h3 : ¬ m = "ends") : (hf e n t).lookup m = none := by
  unfold hf
  rw [lookup_putF, if_neg h1, lookup_putF, if_neg h2, lookup_putF, if_neg h3]
  rfl

/-- the doors of E, as triples, in rising order -/
structure DoorsOf (E : Ends) (ds : List Door) : Prop where
  mem : ∀ d, d ∈ ds ↔ ∃ (a b : Nat) (c : Str), d = ((a : Int), (b : Int), c) ∧ a < b ∧ E a c = some b
  pw : ds.Pairwise fun x y => dlt x y = true

/-- a House stands at a -/
structure HouseAt (CH : Addr) (H : Hp) (a : Addr) (N : Nat) (E : Ends) : Prop where
  ex : ∃ (dx e t : Addr) (kvs : List (List Key × V)) (ts : List Addr) (ds : List Door), H a = some (.ins CH dx (hf e (N : Int) t)) ∧ H e = some (.dT kvs) ∧ Rep kvs E ∧ H t = some (.tup (ts.map V.ref)) ∧ Paired (IsDoor H) ts ds ∧ DoorsOf E ds ∧ ds.length ≤ 1000
theorem doors_mono {H H' : Hp} {ts : List Addr} {ds : List Door} (s : Le H H') (h : Paired (IsDoor H) ts ds) : Paired (IsDoor H') ts ds := Paired.mapP h fun t d e => s t _ e trivial
theorem HouseAt.mono {CH a : Addr} {H H' : Hp} {N : Nat} {E : Ends} (h : HouseAt CH H a N E) (s : Le H H') : HouseAt CH H' a N E := by
  obtain ⟨dx, e, t, kvs, ts, ds, h1, h2, h3, h4, h5, h6, h7⟩ := h.ex
  exact ⟨dx, e, t, kvs, ts, ds, s _ _ h1 (hf_ne _ _ _), s _ _ h2 trivial, h3, s _ _ h4 trivial, doors_mono s h5, h6, h7⟩
end DL

/-! is_door, check_house, check_hall, House.colours, reached_through -/
namespace DL
open PySem L2 DI DO DS

theorem same_in {H H' : Hp} {D : Addr} {o : HO} (s : Same H H') (n : H D = none) : Same H (upd H' D o) := fun b x e => by
  rw [upd_ne (ne_of_none e n)]
  exact s b x e
theorem at_in {H : Hp} {a D : Addr} {o u : HO} (h : H a = some o) (n : H D = none) : (upd H D u) a = some o := by
  rw [upd_ne (ne_of_none h n)]
  exact h
theorem u8 {k : Nat} {A : Around} (hr : Room k A) : A.units + 8 < cLine := by
  have := hr.units
  omega
theorem u4 {k : Nat} {A : Around} (hr : Room k A) : A.units + 4 < cLine := by
  have := hr.units
  omega
theorem u2 {k : Nat} {A : Around} (hr : Room k A) : A.units + 2 < cLine := by
  have := hr.units
  omega
theorem paired_get {α β : Type} {F : α → β → Prop} : ∀ {l1 : List α} {l2 : List β}, Paired F l1 l2 → ∀ {i : Nat} {x : α}, l1[i]? = some x → ∃ y, l2[i]? = some y ∧ F x y
  | _, _, .nil, i, x, e => by simp at e
  | _, _, .cons r t, 0, x, e => ⟨_, rfl, by
    have e := Option.some.inj e
    subst e
    exact r⟩
  | _, _, .cons r t, i + 1, x, e => paired_get t (i := i) e
abbrev nv (x : Nat) : V := V.int (x : Int)
theorem inV_nat (x : Nat) (l : List Nat) : inV (nv x) (l.map nv) = decide (x ∈ l) := by
  unfold inV
  rw [List.any_map]
  by_cases h : x ∈ l
  · rw [decide_eq_true h]
    exact List.any_eq_true.mpr ⟨x, h, by show ((x : Int) == (x : Int)) = true; simp⟩
  · rw [decide_eq_false h]
    refine List.any_eq_false.mpr fun y hy q => h ?_
    have q : ((y : Int) == (x : Int)) = true := q
    have q := eq_of_beq q
    have e : y = x := by omega
    rw [← e]
    exact hy
theorem inV_str (x : Str) (l : List Str) : inV (V.str x) (l.map V.str) = decide (x ∈ l) := by
  unfold inV
  rw [List.any_map]
  by_cases h : x ∈ l
  · rw [decide_eq_true h]
    exact List.any_eq_true.mpr ⟨x, h, by show (x == x) = true; simp⟩
  · rw [decide_eq_false h]
    refine List.any_eq_false.mpr fun y hy q => h ?_
    have q : (y == x) = true := q
    rw [← eq_of_beq q]
    exact hy
theorem flat_nv (l : List Nat) : (l.map nv).all flatV = true := by
  rw [List.all_map]
  exact List.all_eq_true.mpr fun _ _ => rfl
theorem flat_str (l : List Str) : (l.map V.str).all flatV = true := by
  rw [List.all_map]
  exact List.all_eq_true.mpr fun _ _ => rfl
theorem get_map {α β : Type} {f : α → β} {l : List α} {i : Nat} {y : β} (h : (l.map f)[i]? = some y) : ∃ x, l[i]? = some x ∧ y = f x := by
  rw [List.getElem?_map] at h
  cases e : l[i]? with
  | none => rw [e] at h; cases h
  | some x => rw [e] at h; exact ⟨x, rfl, (Option.some.inj h).symm⟩

section
variable {P : Program} {w : World} {K : PySem.W.Frag} {mg : Str → Option Value} {base : Heap} {CH CC : Addr}

/-! ### is_door -/
def spDoor : Sp := fun vs H Q _ => ∃ (N : Int) (t : Addr) (a b : Int) (c : Str), vs = [.int N, .ref t] ∧ IsDoor H t (a, b, c) ∧ 0 ≤ a ∧ a < b ∧ b < N ∧ Colour c ∧ ∀ H', Same H H' → Q (.bl true) H'
theorem scDoor : FnScope ["halls", "value", "one", "other", "colour"] ["halls", "value"] (defScope sDoor) := ⟨rfl, rfl, rfl, by decide +kernel, rfl, by decide +kernel, by decide +kernel⟩
theorem ok_door {f : Addr} {fd : FuncData} (F : L2.Fun K "is_door" "is_door" sDoor f fd) (T : Txt K mg CH CC) (cI : Cal P w K mg base 1 "is_integer" spInt) (cC : Cal P w K mg base 1 "is_colour" spCol) : FnOk P w K mg base CX0 2 f fd ["halls", "value"] spDoor := by
  refine F.ok scDoor (fun vs H Q E h => ?_) (fun cdv A outer s H vs Q E hr h => ?_)
  · obtain ⟨N, t, a, b, c, rfl, _⟩ := h
    rfl
  · obtain ⟨N, t, a, b, c, rfl, hd, h0, h1, h2, hc, q⟩ := h
    refine ⟨_, pss_cons (ps_if (PW.pt (pw_or (pt_not (pt_val (pe_callB call_isi (by rfl) T.zisi PyProof.Rows.boot_isinstance (pa_cons (pv 1) (pa_cons (pe_bltn (v := .ty "tuple") (by rfl) T.ztuple PyProof.Rows.boot_tuple rfl) pa_nil)))))
        (pw_or1 (pt_cmpR op_ne (pe_callB call_len_seq (by rfl) T.zlen boot_len (pa_cons (pv 1) pa_nil)) pe_int (nomark _))))) (pss_one (ps_ret pe_bl)) pss_nil)
      (pss_cons (ps_asg (pv 1) (pg_tup rfl (pgs_cons (pg_name (i := 2) scDoor.nd rfl (Or.inl rfl)) (pgs_cons (pg_name (i := 3) scDoor.nd rfl (Or.inl rfl)) (pgs_cons (pg_name (i := 4) scDoor.nd rfl (Or.inl rfl)) pgs_nil)))))
      (pss_cons (ps_if (PW.pt (pw_or (pt_not (pt_val (pe_c cI hr (by decide) (by rfl) (pa_cons (pv 2) (pa_cons pe_int (pa_cons (pe_op op_sub (pv 0) pe_int) pa_nil))))))
        (pw_or1 (pt_not (pt_val (pe_c cI hr (by decide) (by rfl) (pa_cons (pv 3) (pa_cons pe_int (pa_cons (pe_op op_sub (pv 0) pe_int) pa_nil))))))))) (pss_one (ps_ret pe_bl)) pss_nil)
      (pss_one (ps_ret (pe_and (pe_cmpR op_lt (pv 2) (pv 3) (nomark _)) (pe_one (pe_c cC hr (by decide) (by rfl) (pa_cons (pv 4) pa_nil)))))))), ?_⟩
    have hd' : H t = some (.tup (dv (a, b, c))) := hd
    refine ⟨_, rfl, _, _, _, _, true, rfl, .ty "tuple", .base (.tup hd'), kit_ty (by decide +kernel), true, rfl, iteF ?_⟩
    refine ⟨_, rfl, t, _, rfl, .inr (SqT.of hd'), rfl, _, rfl, ?_⟩
    have e3 : (!decide (V.int (((dv (a, b, c)).length : Nat) : Int) = V.int 3)) = false := rfl
    rw [e3]
    refine iteF ?_
    refine ⟨_, rfl, t, _, rfl, SqT.of hd', rfl, _, _, rfl, _, _, rfl, _, _, rfl, rfl, ?_⟩
    refine ⟨_, rfl, _, rfl, _, _, rfl, rfl, a, 0, N - 1, rfl, _, rfl, ?_⟩
    rw [decide_eq_true (show 0 ≤ a ∧ a ≤ N - 1 by omega)]
    refine iteF ?_
    refine ⟨_, rfl, _, rfl, _, _, rfl, rfl, b, 0, N - 1, rfl, _, rfl, ?_⟩
    rw [decide_eq_true (show 0 ≤ b ∧ b ≤ N - 1 by omega)]
    refine iteF ?_
    refine ⟨_, rfl, _, rfl, _, _, rfl, rfl, _, rfl, ?_⟩
    rw [decide_eq_true h1]
    exact iteT ⟨_, rfl, c, rfl, hc, q⟩

/-! ### check_house, check_hall -/
def spChkHouse (CH : Addr) : Sp := fun vs H Q _ => ∃ (a : Addr) (N : Nat) (E : Ends), vs = [.ref a] ∧ HouseAt CH H a N E ∧ Q .non H
theorem scChkHouse : FnScope ["value"] ["value"] (defScope sChkHouse) := ⟨rfl, rfl, rfl, by decide +kernel, rfl, by decide +kernel, by decide +kernel⟩
theorem ok_chkHouse {f : Addr} {fd : FuncData} (F : L2.Fun K "check_house" "check_house" sChkHouse f fd) (T : Txt K mg CH CC) : FnOk P w K mg base CX0 1 f fd ["value"] (spChkHouse CH) := by
  refine F.ok scChkHouse (fun vs H Q E h => ?_) (fun cdv A outer s H vs Q E hr h => ?_)
  · obtain ⟨a, N, E, rfl, _⟩ := h
    rfl
  · obtain ⟨a, N, E, rfl, hh, q⟩ := h
    refine ⟨_, pss_one (ps_if (pt_not (pt_val (pe_callB (C8.call_isC T.isiH) (by rfl) T.zisi PyProof.Rows.boot_isinstance (pa_cons (pv 0) (pa_cons (pe_glob (v := .ref CH) (by rfl) T.gHouse rfl) pa_nil))))) (pss_one ps_never) pss_nil), ?_⟩
    obtain ⟨dx, e, t, kvs, ts, ds, h1, _⟩ := hh.ex
    exact ⟨_, rfl, a, dx, _, rfl, h1, _, rfl, iteF q⟩
def spChkHall (CH : Addr) : Sp := fun vs H Q _ => ∃ (a : Addr) (N : Nat) (E : Ends) (v : Nat), vs = [.ref a, nv v] ∧ HouseAt CH H a N E ∧ v < N ∧ Q .non H
theorem scChkHall : FnScope ["house", "value"] ["house", "value"] (defScope sChkHall) := ⟨rfl, rfl, rfl, by decide +kernel, rfl, by decide +kernel, by decide +kernel⟩
theorem ok_chkHall {f : Addr} {fd : FuncData} (F : L2.Fun K "check_hall" "check_hall" sChkHall f fd) (T : Txt K mg CH CC) (cI : Cal P w K mg base 1 "is_integer" spInt) : FnOk P w K mg base CX0 2 f fd ["house", "value"] (spChkHall CH) := by
  refine F.ok scChkHall (fun vs H Q E h => ?_) (fun cdv A outer s H vs Q E hr h => ?_)
  · obtain ⟨a, N, E, v, rfl, _⟩ := h
    rfl
  · obtain ⟨a, N, E, v, rfl, hh, hv, q⟩ := h
    refine ⟨_, pss_one (ps_if (pt_not (pt_val (pe_c cI hr (by decide) (by rfl) (pa_cons (pv 1) (pa_cons pe_int (pa_cons (pe_op op_sub (pe_fld (pv 0) rfl) pe_int) pa_nil)))))) (pss_one ps_never) pss_nil), ?_⟩
    obtain ⟨dx, e, t, kvs, ts, ds, h1, _⟩ := hh.ex
    refine ⟨_, rfl, _, rfl, a, CH, dx, _, _, rfl, h1, T.cH, T.nHalls, hf_halls _ _ _, _, _, rfl, rfl, v, 0, (N : Int) - 1, rfl, _, rfl, ?_⟩
    rw [decide_eq_true (show 0 ≤ (v : Int) ∧ (v : Int) ≤ (N : Int) - 1 by omega)]
    exact iteF q

/-! ### House.colours -/
def spColours (CH : Addr) : Sp := fun vs H Q _ => ∃ (a : Addr) (N : Nat) (E : Ends), vs = [.ref a] ∧ HouseAt CH H a N E ∧ (∀ h c x, E h c = some x → h ≠ x ∧ E x c = some h) ∧
  ∀ (H' : Hp) (p : Addr) (xs : List Str), Same H H' → H p = none → H' p = some (.tup (xs.map V.str)) → (∀ c, c ∈ xs ↔ ∃ h x, E h c = some x) → xs.length ≤ 1000 → xs.Nodup → Q (.ref p) H'
theorem scColours : FnScope ["self", "door"] ["self"] (defScope sColours) := ⟨rfl, rfl, rfl, by decide +kernel, rfl, by decide +kernel, by decide +kernel⟩
theorem ok_colours {f : Addr} {fd : FuncData} (F : L2.Fun K "colours" "House.colours" sColours f fd) (T : Txt K mg CH CC) : FnOk P w K mg base CX0 1 f fd ["self"] (spColours CH) := by
  refine F.ok scColours (fun vs H Q E h => ?_) (fun cdv A outer s H vs Q E hr h => ?_)
  · obtain ⟨a, N, E, rfl, _⟩ := h
    rfl
  · obtain ⟨a, N, E, rfl, hh, hE, q⟩ := h
    have hu := hu_of hr
    refine ⟨_, pss_one (ps_ret (pe_callTy call_tuple_of (by rfl) T.ztuple PyProof.Rows.boot_tuple (pa_cons (pe_callB (cr_sortT rfl (u4 hr)) (by rfl) T.zsorted PyProof.Rows.boot_sorted (pa_cons
      (pe_scT (own := [("door", 1)]) (g := gName 1) (tt := tYes) rfl scColours.nd (pi_tup (pe_fld (pv 0) rfl)) (blkOk_by (N := ["self", "door"]) (sc := defScope sColours) (by decide +kernel)) (fun _ _ _ _ _ => pg_name (i := 1) scColours.nd rfl (Or.inl rfl)) (fun _ _ _ _ _ => pts_nil)
          (fun _ _ _ _ _ => pe_ix (r := rIxT K) ix_tup (pv 1) pe_int (fun _ _ => rfl))) pa_nil)) pa_nil))), ?_⟩
    obtain ⟨dx, e, t, kvs, ts, ds, h1, h2, h3, h4, h5, h6, h7⟩ := hh.ex
    refine ⟨_, rfl, a, CH, dx, _, _, rfl, h1, T.cH, T.nDoors, hf_doors _ _ _, t, rfl, ⟨_, SqT.of h4⟩, fun D hD => ?_⟩
    refine sc_gen (J := Itt K t) (n := ts.length) (fun i H' => Same H H' ∧ H' D = some (SetTO w D ((ds.take i).map (·.2.2)))) ⟨same_upd hD, by rw [upd_same]; rfl⟩ (fun i H' hi p => ⟨_, V.ref (ts[i]), SqT.of (p.1 _ _ h4), by rw [List.getElem?_map, List.getElem?_eq_getElem hi]; rfl⟩) (fun H' p => ⟨_, SqT.of (p.1 _ _ h4), by rw [List.length_map]; exact Nat.le_refl _⟩) ?_ ?_
    · rintro i x H1 H2 hi ⟨sm, hd⟩ ⟨rfl, hx⟩
      obtain ⟨tt, ht, rfl⟩ := get_map (hx _ (SqT.of (sm _ _ h4)))
      obtain ⟨d, hd1, hd2⟩ := paired_get h5 ht
      have hdr : H2 tt = some (.tup (dv d)) := sm _ _ hd2
      refine ⟨rfl, tyes ?_⟩
      refine ⟨_, rfl, tt, _, 2, _, rfl, rfl, SqT.of hdr, rfl, ?_⟩
      have hl : ds.length = ts.length := h5.length.symm
      refine ⟨_, _, rfl, hd, ?_, ?_, ?_⟩
      · rw [List.length_map, List.length_take]
        have : scanBound = 4096 := rfl
        omega
      · exact same_in sm hD
      · rw [upd_same, List.take_add_one, hd1, List.map_append]
        rfl
    · rintro H1 ⟨sm, hd⟩
      rw [List.take_of_length_le (by rw [h5.length]; exact Nat.le_refl _)] at hd
      refine ⟨D, _, rfl, hd, fun xs p hm hl hnd hp => ?_⟩
      refine ⟨p, _, rfl, .inl ⟨SqL.of upd_same, fun l hl' => ?_⟩⟩
      have hp0 : H p = none := sm.free hp
      have hl0 : H l = none := (same_in (o := .lst (xs.map V.str)) sm hp0).free hl'
      refine q _ l xs (same_in (same_in sm hp0) hl0) hl0 upd_same (fun c => ?_) (by rw [List.length_map] at hl; omega) hnd
      rw [hm c]
      constructor
      · intro h
        obtain ⟨d, hd, rfl⟩ := List.mem_map.mp h
        obtain ⟨a', b', c', rfl, _, hE⟩ := (h6.mem d).1 hd
        exact ⟨a', b', hE⟩
      · rintro ⟨h, x, hx⟩
        obtain ⟨ne, sy⟩ := hE h c x hx
        rcases Nat.lt_or_ge h x with z | z
        · exact List.mem_map.mpr ⟨((h : Int), (x : Int), c), (h6.mem _).2 ⟨h, x, c, rfl, z, hx⟩, rfl⟩
        · exact List.mem_map.mpr ⟨((x : Int), (h : Int), c), (h6.mem _).2 ⟨x, h, c, rfl, by omega, sy⟩, rfl⟩
end
end DL

/-! reached_through -/
namespace DL
open PySem L2 DI DO DS

theorem val_get {kvs : List (List Key × V)} {E : Ends} (R : Rep kvs E) (h : Nat) (c : Str) (z : V) : (valV kvs (EKey h c)).getD z = match E h c with | some x => nv x | none => z := by
  rw [R.val]
  cases E h c <;> rfl
theorem map_snoc {α β : Type} (f : α → β) (l : List α) (x : α) : (l ++ [x]).map f = l.map f ++ [f x] := by
  rw [List.map_append]
  rfl

section
variable {P : Program} {w : World} {K : PySem.W.Frag} {mg : Str → Option Value} {base : Heap} {CH CC : Addr}
def spReached : Sp := fun vs H Q _ => ∃ (e t : Addr) (kvs : List (List Key × V)) (E : Ends) (N : Nat) (W : Str → Prop) (cs : List Str), vs = [.ref e, .ref t] ∧ H e = some (.dT kvs) ∧ Rep kvs E ∧ Dm.House N W E ∧ N ≤ 64 ∧ H t = some (.tup (cs.map V.str)) ∧
  (∀ h c x, E h c = some x → c ∈ cs) ∧ ∀ H' p, Same H H' → H p = none → H' p = some (.lst ((List.range N).map nv)) → Q (.ref p) H'
theorem scReached : FnScope ["ends", "colours", "found", "at", "colour", "hall"] ["ends", "colours"] (defScope sReached) := ⟨rfl, rfl, rfl, by decide +kernel, rfl, by decide +kernel, by decide +kernel⟩
theorem ok_reached {f : Addr} {fd : FuncData} (F : L2.Fun K "reached_through" "reached_through" sReached f fd) (T : Txt K mg CH CC) : FnOk P w K mg base CX0 1 f fd ["ends", "colours"] spReached := by
  refine F.ok scReached (fun vs H Q E h => ?_) (fun cdv A outer s H vs Q E hr h => ?_)
  · obtain ⟨e, t, kvs, E', N, W, cs, rfl, _⟩ := h
    rfl
  · obtain ⟨e, t, kvs, E, N, W, cs, rfl, he, R, G, hN, ht, hcs, q⟩ := h
    have hu := hu_of hr
    refine ⟨_, pss_cons (ps_par (i := 2) (j := 3) (by rfl) scReached.nd rfl rfl (by decide) rfl rfl (pa_cons (pe_lst (pa_cons pe_int pa_nil)) (pa_cons pe_int pa_nil)) (by rfl))
      (pss_cons (ps_while PassesOwn.never (pt_cmpR op_lt (pv 3) (pe_callB call_len_seq (by rfl) T.zlen boot_len (pa_cons (pv 2) pa_nil)) (nomark _))
        (pss_cons (ps_for PassesOwn.never rfl (pi_tup (pv 1)) (pg_name (i := 4) scReached.nd rfl (Or.inl rfl))
          (pss_cons (ps_set (i := 5) scReached.nd rfl (Or.inl rfl) (pe_dget2 hu (pv 0) (pe_tup (pa_cons (pe_ix ix_list (pv 2) (pv 3) (fun _ _ => rfl)) (pa_cons (pv 4) pa_nil))) pe_int ⟨rfl, rfl, rfl, rfl⟩))
          (pss_one (ps_if (pt_cmpR op_notIn_seq (pv 5) (pv 2) (by rfl)) (pss_one (ps_expr (pe_bm PySem.F.plainAttrs_list PySem.F.slot_list_append PySem.F.type_list_append mt_append (pv 2) (pa_cons (pv 5) pa_nil)))) pss_nil))))
        (pss_one (ps_aug (i := 3) scReached.nd rfl (.inl rfl) pe_int ip_add))))
      (pss_one (ps_ret (pe_callB cr_sortedI (by rfl) T.zsorted PyProof.Rows.boot_sorted (pa_cons (pv 2) pa_nil))))), ?_⟩
    refine ⟨by show 1 ≤ sizeLine; decide, fun F0 hF => ?_⟩
    refine ⟨_, _, rfl, ?_⟩
    have G0 : 0 < N := by have := G.two; omega
    refine ⟨fun m σ H1 => ∃ (at_ : Nat) (order : List Nat) (v4 v5 : Option V), m = 65 - at_ ∧ σ = [some (.ref e), some (.ref t), some (.ref F0), some (nv at_), v4, v5] ∧ Same H H1 ∧ H1 F0 = some (.lst (order.map nv)) ∧ Dm.Bfs E 0 order at_,
      ⟨_, 0, [0], none, none, rfl, rfl, same_upd hF, upd_same, Dm.Bfs.start 0⟩, ?_⟩
    rintro m σ H1 ⟨at_, order, v4, v5, rfl, rfl, sm, hf, B⟩
    have hlen := B.len G G0
    refine ⟨_, rfl, _, rfl, F0, _, rfl, .inl (SqL.of hf), _, _, rfl, rfl, _, rfl, ?_⟩
    rw [List.length_map]
    refine ite2 (fun hlt => ?_) (fun hge => ?_)
    · have hlt : at_ < order.length := by have := of_decide_eq_true hlt; omega
      obtain ⟨x, hx⟩ : ∃ x, order[at_]? = some x := ⟨_, List.getElem?_eq_getElem hlt⟩
      refine ⟨fun σ' H' => ∃ (order : List Nat) (v4 v5 : Option V), σ' = [some (.ref e), some (.ref t), some (.ref F0), some (nv (at_ + 1)), v4, v5] ∧ Same H H' ∧ H' F0 = some (.lst (order.map nv)) ∧ Dm.Bfs E 0 order (at_ + 1),
        fun σ' H' ⟨order, v4, v5, e1, e2, e3, e4⟩ => ⟨_, by omega, at_ + 1, order, v4, v5, rfl, e1, e2, e3, e4⟩, ?_⟩
      refine ⟨_, rfl, t, rfl, ⟨_, SqT.of (sm _ _ ht)⟩, for_tup (K := K) (a := t) (xs := cs.map V.str) (fun i σ H' => ∃ (order : List Nat) (v4 v5 : Option V), σ = [some (.ref e), some (.ref t), some (.ref F0), some (nv at_), v4, v5] ∧ Same H H' ∧ H' F0 = some (.lst (order.map nv)) ∧ Dm.Bfs E 0 order at_ ∧ order[at_]? = some x ∧
        ∀ j, j < i → ∀ c, cs[j]? = some c → ∀ y, E x c = some y → y ∈ order) ⟨order, v4, v5, rfl, sm, hf, B, hx, fun j hj => absurd hj (Nat.not_lt_zero _)⟩ (fun i σ H' _ ⟨_, _, _, _, s', _⟩ => SqT.of (s' _ _ ht)) ?_ ?_⟩
      · rintro i y σ H2 hi ⟨order, v4, v5, rfl, sm, hf, B, hx, done⟩
        obtain ⟨c, hc, rfl⟩ := get_map hi
        have hlen := B.len G G0
        refine ⟨_, rfl, e, rfl, .inr ⟨_, .inl (sm _ _ he)⟩, _, rfl, _, rfl, F0, _, _, _, rfl, rfl, SqL.of hf, atI_nat (by rw [List.getElem?_map, hx]; rfl), _, rfl, by show 2 ≤ sizeLine; decide, fun p hp => ?_⟩
        have hk : (upd H2 p (.tup [nv x, .str c])) p = some (.tup ((EKey x c).map kV)) := upd_same
        refine ⟨_, DGet.t (at_in (sm _ _ he) hp) hk, ?_⟩
        rw [val_get R]
        have hp0 : H p = none := sm.free hp
        have hF' : (upd H2 p (.tup [nv x, .str c])) F0 = some (.lst (order.map nv)) := at_in hf hp
        have s2 : Same H (upd H2 p (.tup [nv x, .str c])) := same_in sm hp0
        have step : ∀ z : Nat, (∀ y, E x c = some y → y = z) → (E x c = none → z ∈ order) → (z ∉ order → E x c = some z) →
            (tIfS (tTest (tOp (rIn K true) (tVar 5) (tVar 2))) (tDrop (tBM K "list" rAppend (tVar 2) (tCons (tVar 5) tNil))) tNext : TS)
              ⟨fun σ H' => ∃ (order : List Nat) (v4 v5 : Option V), σ = [some (.ref e), some (.ref t), some (.ref F0), some (nv at_), v4, v5] ∧ Same H H' ∧ H' F0 = some (.lst (order.map nv)) ∧ Dm.Bfs E 0 order at_ ∧ order[at_]? = some x ∧ ∀ j, j < i + 1 → ∀ c, cs[j]? = some c → ∀ y, E x c = some y → y ∈ order, fun _ _ => False, fun _ _ => False, fun _ _ => False⟩
              [some (.ref e), some (.ref t), some (.ref F0), some (nv at_), some (.str c), some (nv z)] (upd H2 p (.tup [nv x, .str c])) := by
          intro z h1 h2 h3
          refine ⟨_, rfl, _, rfl, F0, _, rfl, .inl (SqL.of hF'), rfl, flat_nv _, _, rfl, ?_⟩
          rw [inV_nat]
          by_cases hz : z ∈ order
          · rw [decide_eq_true hz]
            refine iteF ?_
            refine ⟨order, _, _, rfl, s2, hF', B, hx, fun j hj c' hc' y' hy' => ?_⟩
            rcases Nat.lt_or_ge j i with q' | q'
            · exact done j q' c' hc' y' hy'
            · have ej : j = i := by omega
              rw [ej, hc] at hc'
              rw [← Option.some.inj hc'] at hy'
              rw [h1 y' hy']
              exact hz
          · rw [decide_eq_false hz]
            refine iteT ?_
            have hez := h3 hz
            refine ⟨_, rfl, .inl ⟨rfl, _, SqL.of hF'⟩, _, rfl, F0, _, _, rfl, rfl, hF', ?_, ?_⟩
            · rw [List.length_map]
              have : (64 : Nat) < sizeLine := by decide
              omega
            · have B2 := B.push hx hez hz
              refine ⟨order ++ [z], _, _, rfl, same_in s2 hF, by rw [upd_same, map_snoc], B2, ?_, fun j hj c' hc' y' hy' => ?_⟩
              · rw [List.getElem?_append_left (by exact (List.getElem?_eq_some_iff.mp hx).1)]
                exact hx
              · rcases Nat.lt_or_ge j i with q' | q'
                · exact List.mem_append_left _ (done j q' c' hc' y' hy')
                · have ej : j = i := by omega
                  rw [ej, hc] at hc'
                  rw [← Option.some.inj hc'] at hy'
                  rw [h1 y' hy']
                  exact List.mem_append_right _ (List.mem_singleton.mpr rfl)
        cases hE : E x c with
        | none =>
          exact step 0 (fun y h => by rw [hE] at h; cases h) (fun _ => B.src) (fun h => absurd B.src h)
        | some z =>
          exact step z (fun y h => by rw [hE] at h; exact (Option.some.inj h).symm) (fun h => by rw [hE] at h; cases h) (fun _ => hE)
      · rintro σ H2 ⟨order, v4, v5, rfl, sm, hf, B, hx, done⟩
        refine ⟨_, rfl, _, _, rfl, rfl, ?_⟩
        refine ⟨order, v4, v5, rfl, sm, hf, B.next hx fun c y hy => ?_⟩
        obtain ⟨j, hj⟩ := List.mem_iff_getElem?.mp (hcs _ _ _ hy)
        have hj' := (List.getElem?_eq_some_iff.mp hj).1
        exact done j (by rw [List.length_map]; exact hj') c hj y hy
    · have hge : order.length ≤ at_ := by
        rcases Nat.lt_or_ge at_ order.length with z | z
        · exact absurd (decide_eq_true (show ((at_ : Nat) : Int) < ((order.length : Nat) : Int) by omega)) hge
        · exact z
      refine ⟨_, rfl, F0, order.map fun x : Nat => (x : Int), rfl, by rw [List.map_map]; exact SqL.of hf, fun ns' p hperm hpw hp => ?_⟩
      have en : ns' = (List.range N).map fun x : Nat => (x : Int) := by
        obtain ⟨l, rfl⟩ : ∃ l : List Nat, ns' = l.map fun x : Nat => (x : Int) := by
          refine ⟨ns'.map Int.toNat, ?_⟩
          rw [List.map_map]
          refine (List.map_id ns').symm.trans (List.map_congr_left fun x hx => ?_)
          obtain ⟨y, _, rfl⟩ := List.mem_map.mp (hperm.subset hx)
          rfl
        have hmem : ∀ x, x ∈ l ↔ x ∈ order := fun x => by
          constructor
          · intro h
            obtain ⟨y, hy, e⟩ := List.mem_map.mp (hperm.subset (List.mem_map.mpr ⟨x, h, rfl⟩))
            have : y = x := by omega
            rw [← this]
            exact hy
          · intro h
            obtain ⟨y, hy, e⟩ := List.mem_map.mp (hperm.symm.subset (List.mem_map.mpr ⟨x, h, rfl⟩))
            have : y = x := by omega
            rw [← this]
            exact hy
        have hnd : l.Nodup := by
          have h1 : (order.map fun x : Nat => (x : Int)).Nodup := by
            refine List.pairwise_map.mpr (B.nd.imp fun {a b} h e => h (by omega))
          have h2 := hperm.symm.nodup h1
          exact (List.pairwise_map.mp h2).imp fun {a b} h e => h (by rw [e])
        have hpw2 : l.Pairwise (· < ·) := by
          have h1 := List.pairwise_map.mp hpw
          refine (h1.and hnd).imp fun {a b} h => ?_
          have h3 := h.1
          have h4 := h.2
          omega
        rw [Dm.rising_range N 0 l hpw2 fun x => by
          rw [hmem]
          constructor
          · intro h
            have := B.lt G G0 x h
            omega
          · intro h
            exact B.all G G0 hge (by omega), List.range_eq_range']
      refine q _ p (same_in sm (sm.free hp)) (sm.free hp) ?_
      rw [upd_same, en, List.map_map]
      rfl
end
end DL

/-! ends_of, House.__init__ -/
namespace DL
open PySem L2 DI DO DS

/-- what stands between a statement and the rest of its block -/
theorem seq_cut {t rest : TS} {D : L2.Ends} {σ : L2.St} {H : Hp} (J : L2.St → Hp → Prop) (h : ∀ NX : L2.St → Hp → Prop, (∀ σ' H', J σ' H' → NX σ' H') → t { D with nx := NX } σ H) (hr : ∀ σ' H', J σ' H' → rest D σ' H') : tSeq t rest D σ H := h _ hr
theorem nodup_sub {α : Type} [DecidableEq α] : ∀ (l m : List α), l.Nodup → (∀ x ∈ l, x ∈ m) → l.length ≤ m.length
  | [], m, _, _ => Nat.zero_le _
  | x :: l, m, h, s => by
    obtain ⟨h1, h2⟩ := List.nodup_cons.mp h
    have hx := s x List.mem_cons_self
    have q := nodup_sub l (m.erase x) h2 fun y hy => (List.mem_erase_of_ne (fun e => h1 (by rw [← e]; exact hy))).mpr (s y (List.mem_cons_of_mem _ hy))
    rw [List.length_erase_of_mem hx] at q
    have := List.length_pos_of_mem hx
    rw [List.length_cons]
    omega
/-- what has been stored when the doors ds have been read -/
structure EndsOf (ds : List Door) (E : Ends) : Prop where
  iff : ∀ h c x, E h c = some x ↔ (((h : Int), (x : Int), c) ∈ ds ∨ ((x : Int), (h : Int), c) ∈ ds)
theorem EndsOf.nil : EndsOf [] (fun _ _ => none) := ⟨fun h c x => by simp⟩
theorem EndsOf.snoc {ds : List Door} {E : Ends} (X : EndsOf ds E) {a b : Nat} {c : Str} (lt : a < b) (ea : E a c = none) (eb : E b c = none) : EndsOf (ds ++ [((a : Int), (b : Int), c)]) (Dm.door E a c b) := by
  refine ⟨fun h c' x => ?_⟩
  constructor
  · intro e
    rcases Dm.door_cases e with ⟨rfl, rfl, rfl⟩ | ⟨rfl, rfl, rfl⟩ | e
    · exact .inr (List.mem_append_right _ (List.mem_singleton.mpr rfl))
    · exact .inl (List.mem_append_right _ (List.mem_singleton.mpr rfl))
    · rcases (X.iff h c' x).1 e with q | q
      · exact .inl (List.mem_append_left _ q)
      · exact .inr (List.mem_append_left _ q)
  · intro e
    rcases e with e | e
    · rcases List.mem_append.mp e with q | q
      · exact Dm.door_old ea eb ((X.iff _ _ _).2 (.inl q))
      · have q := List.mem_singleton.mp q
        have e1 : (h : Int) = a := congrArg (·.1) q
        have e2 : (x : Int) = b := congrArg (·.2.1) q
        have e3 : c' = c := congrArg (·.2.2) q
        have e1 : h = a := by omega
        have e2 : x = b := by omega
        subst e1 e2 e3
        exact Dm.door_a (by omega)
    · rcases List.mem_append.mp e with q | q
      · exact Dm.door_old ea eb ((X.iff _ _ _).2 (.inr q))
      · have q := List.mem_singleton.mp q
        have e1 : (x : Int) = a := congrArg (·.1) q
        have e2 : (h : Int) = b := congrArg (·.2.1) q
        have e3 : c' = c := congrArg (·.2.2) q
        have e1 : x = a := by omega
        have e2 : h = b := by omega
        subst e1 e2 e3
        exact Dm.door_b
theorem EndsOf.all {N : Nat} {W : Str → Prop} {ds : List Door} {E E' : Ends} (D : DoorsOf E ds) (G : Dm.House N W E) (X : EndsOf ds E') : E' = E := by
  funext h c
  refine Option.ext fun x => ?_
  rw [X.iff]
  constructor
  · rintro (q | q)
    · obtain ⟨a, b, c', e, lt, hE⟩ := (D.mem _).1 q
      have e1 : (h : Int) = a := congrArg (·.1) e
      have e2 : (x : Int) = b := congrArg (·.2.1) e
      have e3 : c = c' := congrArg (·.2.2) e
      have e1 : h = a := by omega
      have e2 : x = b := by omega
      subst e1 e2 e3
      exact hE
    · obtain ⟨a, b, c', e, lt, hE⟩ := (D.mem _).1 q
      have e1 : (x : Int) = a := congrArg (·.1) e
      have e2 : (h : Int) = b := congrArg (·.2.1) e
      have e3 : c = c' := congrArg (·.2.2) e
      have e1 : x = a := by omega
      have e2 : h = b := by omega
      subst e1 e2 e3
      exact G.sym _ _ _ hE
  · intro e
    have ne := G.ne _ _ _ e
    rcases Nat.lt_or_ge h x with z | z
    · exact .inl ((D.mem _).2 ⟨h, x, c, rfl, z, e⟩)
    · exact .inr ((D.mem _).2 ⟨x, h, c, rfl, by omega, G.sym _ _ _ e⟩)
/-- the next door's ends are free -/
theorem EndsOf.free {N : Nat} {W : Str → Prop} {ds : List Door} {E E' : Ends} {i a b : Nat} {c : Str} (D : DoorsOf E ds) (G : Dm.House N W E) (hi : ds[i]? = some ((a : Int), (b : Int), c)) (X : EndsOf (ds.take i) E') : E' a c = none ∧ E' b c = none := by
  obtain ⟨hl, hi'⟩ := List.getElem?_eq_some_iff.mp hi
  have hm : (((a : Int), (b : Int), c) : Door) ∈ ds := List.mem_of_getElem? hi
  obtain ⟨a', b', c', e, lt, hE⟩ := (D.mem _).1 hm
  have e1 : (a : Int) = a' := congrArg (·.1) e
  have e2 : (b : Int) = b' := congrArg (·.2.1) e
  have e3 : c = c' := congrArg (·.2.2) e
  have e1 : a = a' := by omega
  have e2 : b = b' := by omega
  subst e1 e2 e3
  have nin : (((a : Int), (b : Int), c) : Door) ∉ ds.take i := fun q => by
    obtain ⟨j, hj⟩ := List.mem_iff_getElem?.mp q
    have hji : j < i := by
      have := (List.getElem?_eq_some_iff.mp hj).1
      rw [List.length_take] at this
      omega
    rw [List.getElem?_take, if_pos hji] at hj
    obtain ⟨hl2, hj'⟩ := List.getElem?_eq_some_iff.mp hj
    have := List.pairwise_iff_getElem.mp D.pw j i hl2 hl hji
    rw [hj', hi'] at this
    have z := of_decide_eq_true this
    simp only at z
    rcases z with z | ⟨_, z | ⟨_, z⟩⟩
    · exact Int.lt_irrefl _ z
    · exact Int.lt_irrefl _ z
    · exact List.lt_irrefl _ z
  have bad : ∀ x y : Nat, (((x : Int), (y : Int), c) : Door) ∈ ds.take i → x < y ∧ E x c = some y := fun x y q => by
    obtain ⟨a', b', c', e, lt, hE⟩ := (D.mem _).1 (List.mem_of_mem_take q)
    have e1 : (x : Int) = a' := congrArg (·.1) e
    have e2 : (y : Int) = b' := congrArg (·.2.1) e
    have e3 : c = c' := congrArg (·.2.2) e
    have e1 : x = a' := by omega
    have e2 : y = b' := by omega
    subst e1 e2 e3
    exact ⟨lt, hE⟩
  constructor
  · cases q : E' a c with
    | none => rfl
    | some x =>
      exfalso
      rcases (X.iff _ _ _).1 q with q | q
      · obtain ⟨l, h⟩ := bad _ _ q
        rw [hE] at h
        rw [← Option.some.inj h] at q
        exact nin q
      · obtain ⟨l, h⟩ := bad _ _ q
        have h := G.sym _ _ _ h
        rw [hE] at h
        have := Option.some.inj h
        omega
  · cases q : E' b c with
    | none => rfl
    | some x =>
      exfalso
      have hS := G.sym _ _ _ hE
      rcases (X.iff _ _ _).1 q with q | q
      · obtain ⟨l, h⟩ := bad _ _ q
        rw [hS] at h
        have := Option.some.inj h
        omega
      · obtain ⟨l, h⟩ := bad _ _ q
        have h := G.sym _ _ _ h
        rw [hS] at h
        rw [← Option.some.inj h] at q
        exact nin q

section
variable {P : Program} {w : World} {K : PySem.W.Frag} {mg : Str → Option Value} {base : Heap} {CH CC : Addr}
/-- the tuple of doors as it is given -/
structure DoorsAt (H : Hp) (t : Addr) (ts : List Addr) (ds : List Door) (N : Nat) (ws : List Str) (E : Ends) : Prop where
  t : H t = some (.tup (ts.map V.ref))
  d : Paired (IsDoor H) ts ds
  D : DoorsOf E ds
  len : ds.length ≤ 1000
  g : Good N ws E
  cs : ∀ c ∈ ws, Colour c
  wl : ws.length ≤ 16
theorem DoorsAt.mono {H H' : Hp} {t : Addr} {ts : List Addr} {ds : List Door} {N : Nat} {ws : List Str} {E : Ends} (h : DoorsAt H t ts ds N ws E) (s : Le H H') : DoorsAt H' t ts ds N ws E := ⟨s _ _ h.t trivial, doors_mono s h.d, h.D, h.len, h.g, h.cs, h.wl⟩
def spEndsOf : Sp := fun vs H Q _ => ∃ (N : Nat) (t : Addr) (ts : List Addr) (ds : List Door) (ws : List Str) (E : Ends), vs = [nv N, .ref t] ∧ DoorsAt H t ts ds N ws E ∧
  ∀ H' p kvs, Same H H' → H p = none → H' p = some (.dT kvs) → Rep kvs E → Q (.ref p) H'
theorem scEndsOf : FnScope ["halls", "doors", "ends", "colours", "position", "door", "one", "other", "colour"] ["halls", "doors"] (defScope sEndsOf) := ⟨rfl, rfl, rfl, by decide +kernel, rfl, by decide +kernel, by decide +kernel⟩
theorem ok_endsOf {f : Addr} {fd : FuncData} (F : L2.Fun K "ends_of" "ends_of" sEndsOf f fd) (T : Txt K mg CH CC) (cD : Cal P w K mg base 2 "is_door" spDoor) : FnOk P w K mg base CX0 3 f fd ["halls", "doors"] spEndsOf := by
  refine F.ok scEndsOf (fun vs H Q E h => ?_) (fun cdv A outer s H vs Q E hr h => ?_)
  · obtain ⟨N, t, ts, ds, ws, E, rfl, _⟩ := h
    rfl
  · obtain ⟨N, t, ts, ds, ws, E, rfl, DA, q⟩ := h
    have hu := hu_of hr
    obtain ⟨tc, hc⟩ := T.gColours
    refine ⟨_, pss_cons (ps_if (pt_not (pt_val (pe_callB call_isi (by rfl) T.zisi PyProof.Rows.boot_isinstance (pa_cons (pv 1) (pa_cons (pe_bltn (v := .ty "tuple") (by rfl) T.ztuple PyProof.Rows.boot_tuple rfl) pa_nil))))) (pss_one ps_never) pss_nil)
      (pss_cons (ps_par (i := 2) (j := 3) (by rfl) scEndsOf.nd rfl rfl (by decide) rfl rfl (pa_cons pe_dnewT (pa_cons (pe_lst pa_nil) pa_nil)) (by rfl))
      (pss_cons (ps_for PassesOwn.never rfl (pi_enumT (by rfl) T.zenum (pa_cons (pv 1) pa_nil)) (pg_tup rfl (pgs_cons (pg_name (i := 4) scEndsOf.nd rfl (Or.inl rfl)) (pgs_cons (pg_name (i := 5) scEndsOf.nd rfl (Or.inl rfl)) pgs_nil)))
        (pss_cons (ps_if (PW.pt (pw_or (pt_not (pt_val (pe_c cD hr (by decide) (by rfl) (pa_cons (pv 0) (pa_cons (pv 5) pa_nil)))))
            (pw_or1 (PW.pt (pw_and (pt_cmpR op_gt (pv 4) pe_int (nomark _)) (pw_and1 (pt_cmpR (op_leD (u2 hr)) (pv 5) (pe_ix ix_tup (pv 1) (pe_op op_sub (pv 4) pe_int) (fun _ _ => rfl)) (nomark _)))))))) (pss_one ps_never) pss_nil)
        (pss_cons (ps_asg (pv 5) (pg_tup rfl (pgs_cons (pg_name (i := 6) scEndsOf.nd rfl (Or.inl rfl)) (pgs_cons (pg_name (i := 7) scEndsOf.nd rfl (Or.inl rfl)) (pgs_cons (pg_name (i := 8) scEndsOf.nd rfl (Or.inl rfl)) pgs_nil)))))
        (pss_cons (ps_if (pt_cmpR op_notIn_seq (pv 8) (pv 3) (by rfl)) (pss_one (ps_expr (pe_bm PySem.F.plainAttrs_list PySem.F.slot_list_append PySem.F.type_list_append mt_append (pv 3) (pa_cons (pv 8) pa_nil)))) pss_nil)
        (pss_cons (ps_if (PW.pt (pw_or (pt_cmp (pc_din hu (pe_tup (pa_cons (pv 6) (pa_cons (pv 8) pa_nil))) (pv 2))) (pw_or (pt_cmp (pc_din hu (pe_tup (pa_cons (pv 7) (pa_cons (pv 8) pa_nil))) (pv 2)))
            (pw_or1 (pt_cmpR op_gt (pe_callB call_len_seq (by rfl) T.zlen boot_len (pa_cons (pv 3) pa_nil)) (pe_glob (v := .int 16) (by rfl) hc ⟨_, rfl⟩) (nomark _)))))) (pss_one ps_never) pss_nil)
        (pss_cons (ps_dput hu (pv 2) (pe_tup (pa_cons (pv 6) (pa_cons (pv 8) pa_nil))) (pv 7) rfl)
        (pss_one (ps_dput hu (pv 2) (pe_tup (pa_cons (pv 7) (pa_cons (pv 8) pa_nil))) (pv 6) rfl))))))))
      (pss_one (ps_ret (pv 2))))), ?_⟩
    refine ⟨_, rfl, _, _, _, _, true, rfl, .ty "tuple", .base (.tup DA.t), kit_ty (by decide +kernel), true, rfl, iteF ?_⟩
    refine fun e he => ⟨Nat.zero_le _, fun cl hcl => ⟨_, _, rfl, ?_⟩⟩
    have hcl0 : H cl = none := (same_upd (o := .dT []) he).free hcl
    have hne : cl ≠ e := fun z => by rw [z, upd_same] at hcl; cases hcl
    have sm0 : Same H (upd (upd H e (.dT [])) cl (.lst [])) := same_in (same_upd he) hcl0
    refine ⟨_, rfl, t, _, rfl, SqT.of (sm0 _ _ DA.t), ?_⟩
    refine for_gen (J := IteT K t) (n := ts.length) (fun i σ H' => ∃ (kvs : List (List Key × V)) (E' : Ends) (cs : List Str) (v4 v5 v6 v7 v8 : Option V), σ = [some (nv N), some (.ref t), some (.ref e), some (.ref cl), v4, v5, v6, v7, v8] ∧ Same H H' ∧
      H' e = some (.dT kvs) ∧ H' cl = some (.lst (cs.map V.str)) ∧ Rep kvs E' ∧ EndsOf (ds.take i) E' ∧ kvs.length ≤ 2 * i ∧ cs.Nodup ∧ ∀ c ∈ cs, c ∈ ws)
      ⟨[], _, [], none, none, none, none, none, rfl, sm0, at_in upd_same hcl, upd_same, Rep.nil, EndsOf.nil, Nat.le_refl _, List.nodup_nil, fun c h => nomatch h⟩
      (fun i σ H' hi ⟨_, _, _, _, _, _, _, _, _, s', _⟩ => ⟨_, V.ref (ts[i]), SqT.of (s' _ _ DA.t), by rw [List.getElem?_map, List.getElem?_eq_getElem hi]; rfl⟩) (fun σ H' ⟨_, _, _, _, _, _, _, _, _, s', _⟩ => ⟨_, SqT.of (s' _ _ DA.t), by rw [List.length_map]⟩) ?_ ?_
    · rintro i x σ H1 H2 hi ⟨kvs, E', cs, v4, v5, v6, v7, v8, rfl, sm, hde, hcl', R, X, hk, hnd, hws⟩ ⟨T1, y, rfl, hT1, rfl, hy⟩
      obtain ⟨tt, ht, rfl⟩ := get_map (hy _ (SqT.of (sm _ _ DA.t)))
      obtain ⟨d, hd1, hd2⟩ := paired_get DA.d ht
      obtain ⟨a, b, c, rfl, lt, hE⟩ := (DA.D.mem d).1 (List.mem_of_getElem? hd1)
      have hT0 : H T1 = none := sm.free hT1
      have sm : Same H (upd H1 T1 (.tup [.int (i : Nat), .ref tt])) := same_in sm hT0
      have hde : (upd H1 T1 (.tup [.int (i : Nat), .ref tt])) e = some (.dT kvs) := at_in hde hT1
      have hcl' : (upd H1 T1 (.tup [.int (i : Nat), .ref tt])) cl = some (.lst (cs.map V.str)) := at_in hcl' hT1
      refine ⟨T1, _, rfl, SqT.of upd_same, rfl, _, _, rfl, _, _, rfl, rfl, ?_⟩
      generalize upd H1 T1 (.tup [.int (i : Nat), .ref tt]) = H3 at sm hde hcl'
      have hw := DA.g.g.col _ _ _ hE
      have hlt := DA.g.g.lt _ _ _ hE
      have hfr := EndsOf.free DA.D DA.g.g hd1 X
      have hdlen : ds.length = ts.length := DA.d.length.symm
      have hi1000 : i < 1000 := by have := DA.len; omega
      have hwl := DA.wl
      have hsz : (4000 : Nat) < sizeLine := by decide
      have hsz2 : 2 ≤ sizeLine := by decide
      -- not is_door(..) or position > 0 and door <= doors[position - 1]
      refine seq_cut (t := tIfS _ _ _) (fun σ' H' => σ' = [some (nv N), some (.ref t), some (.ref e), some (.ref cl), some (.int (i : Nat)), some (.ref tt), v6, v7, v8] ∧ Same H H' ∧ H' e = some (.dT kvs) ∧ H' cl = some (.lst (cs.map V.str))) (fun NX hNX => ?_) ?_
      · refine ⟨_, rfl, _, rfl, (N : Int), tt, a, b, c, rfl, sm _ _ hd2, by omega, by omega, by omega, DA.cs c hw, fun H4 s4 => ⟨_, rfl, iteF ?_⟩⟩
        have hN : NX _ _ := hNX _ _ ⟨rfl, sm.trans s4, s4 _ _ hde, s4 _ _ hcl'⟩
        have sm := sm.trans s4
        refine ⟨_, rfl, _, _, rfl, rfl, _, rfl, ?_⟩
        by_cases hi0 : 0 < i
        · rw [decide_eq_true (show (0 : Int) < ((i : Nat) : Int) by omega)]
          refine iteT ?_
          obtain ⟨t2, ht2⟩ : ∃ t2, ts[i - 1]? = some t2 := ⟨_, List.getElem?_eq_getElem (by omega)⟩
          obtain ⟨d2, hd21, hd22⟩ := paired_get DA.d ht2
          have hlt2 : dlt d2 ((a : Int), (b : Int), c) = true := by
            obtain ⟨h1, e1⟩ := List.getElem?_eq_some_iff.mp hd21
            obtain ⟨h2, e2⟩ := List.getElem?_eq_some_iff.mp hd1
            have := List.pairwise_iff_getElem.mp DA.D.pw (i - 1) i h1 h2 (by omega)
            rw [e1, e2] at this
            exact this
          have hat : atI (ts.map V.ref) (((i : Nat) : Int) - 1) = some (V.ref t2) := by
            rw [show ((i : Nat) : Int) - 1 = ((i - 1 : Nat) : Int) by omega]
            exact atI_nat (by rw [List.getElem?_map, ht2]; rfl)
          refine ⟨_, rfl, _, rfl, _, rfl, _, _, rfl, rfl, t, _, _, _, rfl, rfl, SqT.of (sm _ _ DA.t), hat, ?_⟩
          exact ⟨tt, t2, _, d2, rfl, rfl, sm _ _ hd2, sm _ _ hd22, hlt2, _, rfl, iteF hN⟩
        · rw [decide_eq_false (show ¬ (0 : Int) < ((i : Nat) : Int) by omega)]
          exact iteF (iteF hN)
      clear sm hde hcl'
      rintro σ H4 ⟨rfl, sm, hde, hcl'⟩
      refine ⟨_, rfl, tt, _, rfl, SqT.of (sm _ _ hd2), rfl, _, _, rfl, _, _, rfl, _, _, rfl, rfl, ?_⟩
      -- colours
      dsimp only
      refine seq_cut (t := tIfS _ _ _) (fun σ' H' => ∃ cs : List Str, σ' = [some (nv N), some (.ref t), some (.ref e), some (.ref cl), some (.int (i : Nat)), some (.ref tt), some (nv a), some (nv b), some (.str c)] ∧ Same H H' ∧ H' e = some (.dT kvs) ∧ H' cl = some (.lst (cs.map V.str)) ∧ cs.Nodup ∧ ∀ c ∈ cs, c ∈ ws) (fun NX hNX => ?_) ?_
      · refine ⟨_, rfl, _, rfl, cl, _, rfl, .inl (SqL.of hcl'), rfl, flat_str _, _, rfl, ?_⟩
        rw [inV_str]
        by_cases hin : c ∈ cs
        · rw [decide_eq_true hin]
          exact iteF (hNX _ _ ⟨cs, rfl, sm, hde, hcl', hnd, hws⟩)
        · rw [decide_eq_false hin]
          have hlen := nodup_sub cs ws hnd hws
          refine iteT ⟨_, rfl, .inl ⟨rfl, _, SqL.of hcl'⟩, _, rfl, cl, _, _, rfl, rfl, hcl', ?_, ?_⟩
          · rw [List.length_map]
            omega
          · refine hNX _ _ ⟨cs ++ [c], rfl, same_in sm hcl0, by rw [upd_ne hne.symm]; exact hde, by rw [upd_same, map_snoc], nd_snoc hnd hin, fun c' h' => ?_⟩
            rcases List.mem_append.mp h' with z | z
            · exact hws c' z
            · rw [List.mem_singleton.mp z]
              exact hw
      clear hcl' hde sm hnd hws
      rintro σ H5 ⟨cs, rfl, sm, hde, hcl', hnd, hws⟩
      have hlen := nodup_sub cs ws hnd hws
      -- (one, colour) in ends or ..
      refine seq_cut (t := tIfS _ _ _) (fun σ' H' => σ' = [some (nv N), some (.ref t), some (.ref e), some (.ref cl), some (.int (i : Nat)), some (.ref tt), some (nv a), some (nv b), some (.str c)] ∧ Same H H' ∧ H' e = some (.dT kvs) ∧ H' cl = some (.lst (cs.map V.str))) (fun NX hNX => ?_) ?_
      · refine ⟨_, rfl, _, rfl, hsz2, fun p hp => ⟨_, rfl, e, none, rfl, ?_, _, rfl, iteF ?_⟩⟩
        · have := DGet.t (H := upd H5 p (.tup [nv a, .str c])) (k := EKey a c) (b := p) (at_in hde hp) upd_same
          rw [R.val, hfr.1] at this
          exact this
        have sm6 : Same H (upd H5 p (.tup [nv a, .str c])) := same_in sm (sm.free hp)
        have hde6 : (upd H5 p (.tup [nv a, .str c])) e = some (.dT kvs) := at_in hde hp
        have hcl6 : (upd H5 p (.tup [nv a, .str c])) cl = some (.lst (cs.map V.str)) := at_in hcl' hp
        refine ⟨_, rfl, _, rfl, hsz2, fun p2 hp2 => ⟨_, rfl, e, none, rfl, ?_, _, rfl, iteF ?_⟩⟩
        · have := DGet.t (H := upd (upd H5 p (.tup [nv a, .str c])) p2 (.tup [nv b, .str c])) (k := EKey b c) (b := p2) (at_in hde6 hp2) upd_same
          rw [R.val, hfr.2] at this
          exact this
        have hcl7 : (upd (upd H5 p (.tup [nv a, .str c])) p2 (.tup [nv b, .str c])) cl = some (.lst (cs.map V.str)) := at_in hcl6 hp2
        refine ⟨_, rfl, cl, _, rfl, .inl (SqL.of hcl7), _, _, rfl, rfl, _, rfl, ?_⟩
        rw [List.length_map, decide_eq_false (show ¬ (16 : Int) < ((cs.length : Nat) : Int) by omega)]
        exact iteF (hNX _ _ ⟨rfl, same_in sm6 (sm6.free hp2), at_in hde6 hp2, hcl7⟩)
      clear hcl' hde sm
      rintro σ H7 ⟨rfl, sm, hde, hcl'⟩
      have l1 := length_putK kvs (EKey a c) (nv b)
      have l2 := length_putK (putK kvs (EKey a c) (nv b)) (EKey b c) (nv a)
      refine seq_cut (t := sDPut _ _ _) (fun σ' H' => σ' = [some (nv N), some (.ref t), some (.ref e), some (.ref cl), some (.int (i : Nat)), some (.ref tt), some (nv a), some (nv b), some (.str c)] ∧ Same H H' ∧ H' e = some (.dT (putK kvs (EKey a c) (nv b))) ∧ H' cl = some (.lst (cs.map V.str))) (fun NX hNX => ?_) ?_
      · refine ⟨_, rfl, _, rfl, _, rfl, _, rfl, hsz2, fun p hp => ⟨e, _, rfl, DPut.t (k := EKey a c) (b := p) (at_in hde hp) upd_same (by omega), ?_⟩⟩
        refine hNX _ _ ⟨rfl, same_in (same_in sm (sm.free hp)) he, upd_same, ?_⟩
        rw [upd_ne hne]
        exact at_in hcl' hp
      clear hcl' hde sm
      rintro σ H8 ⟨rfl, sm, hde, hcl'⟩
      refine ⟨_, rfl, _, rfl, _, rfl, _, rfl, hsz2, fun p hp => ⟨e, _, rfl, DPut.t (k := EKey b c) (b := p) (at_in hde hp) upd_same (by omega), ?_⟩⟩
      refine ⟨_, Dm.door E' a c b, cs, _, _, _, _, _, rfl, same_in (same_in sm (sm.free hp)) he, upd_same, ?_, (R.put a c b).put b c a, ?_, by omega, hnd, hws⟩
      · rw [upd_ne hne]
        exact at_in hcl' hp
      · rw [List.take_add_one, hd1]
        exact X.snoc lt hfr.1 hfr.2
    · rintro σ H1 ⟨kvs, E', cs, v4, v5, v6, v7, v8, rfl, sm, hde, hcl', R, X, hk, hnd, hws⟩
      rw [List.take_of_length_le (by rw [DA.d.length]; exact Nat.le_refl _)] at X
      have := X.all DA.D DA.g.g
      subst this
      exact ⟨_, rfl, q H1 e kvs sm he hde R⟩
end
end DL

/-! House.__init__, check_ends, distances_from, distance -/
namespace DL
open PySem L2 DI DO DS

section
variable {P : Program} {w : World} {K : PySem.W.Frag} {mg : Str → Option Value} {base : Heap} {CH CC : Addr}
def spHouseInit (CH : Addr) : Sp := fun vs H Q _ => ∃ (x dx t : Addr) (N : Nat) (ts : List Addr) (ds : List Door) (ws : List Str) (E : Ends), vs = [.ref x, nv N, .ref t] ∧ H x = some (.ins CH dx []) ∧ DoorsAt H t ts ds N ws E ∧
  ∀ H', (∀ b o, H b = some o → b ≠ x → H' b = some o) → HouseAt CH H' x N E → Q .non H'
theorem scHouseInit : FnScope ["self", "halls", "doors", "place", "hall"] ["self", "halls", "doors"] (C8.fnScope sHouseInit) := ⟨rfl, rfl, rfl, by decide +kernel, rfl, by decide +kernel, by decide +kernel⟩
theorem ok_houseInit {f : Addr} {fd : FuncData} (F : C8.Fun K "__init__" "House.__init__" sHouseInit f fd) (T : Txt K mg CH CC) (cI : Cal P w K mg base 1 "is_integer" spInt) (cE : Cal P w K mg base 3 "ends_of" spEndsOf) (cR : Cal P w K mg base 1 "reached_through" spReached)
    (mC : Met P w K mg base 1 CH "colours" (spColours CH)) : FnOk P w K mg base CX0 4 f fd ["self", "halls", "doors"] (spHouseInit CH) := by
  refine C8.fn0 F scHouseInit (fun vs H Q E h => ?_) (fun cdv A outer s H vs Q E hr h => ?_)
  · obtain ⟨x, dx, t, N, ts, ds, ws, E, rfl, _⟩ := h
    rfl
  · obtain ⟨x, dx, t, N, ts, ds, ws, E, rfl, hx, DA, q⟩ := h
    obtain ⟨th, hh⟩ := T.gHalls
    refine ⟨_, pss_cons (ps_if (pt_not (pt_val (pe_c cI hr (by decide) (by rfl) (pa_cons (pv 1) (pa_cons pe_int (pa_cons (pe_glob (v := .int 64) (by rfl) hh ⟨_, rfl⟩) pa_nil)))))) (pss_one ps_never) pss_nil)
      (pss_cons (ps_fld (pv 0) (pe_c cE hr (by decide) (by rfl) (pa_cons (pv 1) (pa_cons (pv 2) pa_nil))) rfl)
      (pss_cons (ps_fld (pv 0) (pv 1) rfl)
      (pss_cons (ps_fld (pv 0) (pv 2) rfl)
      (pss_one (ps_for PassesOwn.never rfl (pi_enum (by rfl) T.zenum (pa_cons (pe_op op_cat (pe_c cR hr (by decide) (by rfl) (pa_cons (pe_fld (pv 0) rfl) (pa_cons (pe_mt0 mC hr (by decide) (pv 0)) pa_nil))) (pe_lst (pa_cons (pv 1) pa_nil))) pa_nil))
        (pg_tup rfl (pgs_cons (pg_name (i := 3) scHouseInit.nd rfl (Or.inl rfl)) (pgs_cons (pg_name (i := 4) scHouseInit.nd rfl (Or.inl rfl)) pgs_nil)))
        (pss_one (ps_if (pt_cmpR op_gt (pv 4) (pv 3) (nomark _)) (pss_one ps_never) pss_nil))))))), ?_⟩
    have hN := DA.g.le
    have h2 := DA.g.g.two
    have hsz : ((List.range N).map nv).length + [nv N].length ≤ sizeLine := by
      rw [List.length_map, List.length_range]
      have : (65 : Nat) < sizeLine := by decide
      show N + 1 ≤ sizeLine
      omega
    refine ⟨_, rfl, (N : Int), 1, 64, rfl, _, rfl, ?_⟩
    rw [decide_eq_true (show 1 ≤ (N : Int) ∧ (N : Int) ≤ 64 by omega)]
    refine iteF ?_
    refine ⟨_, rfl, _, rfl, N, t, ts, ds, ws, E, rfl, DA, fun H1 e kvs s1 ne he R => ?_⟩
    refine ⟨_, rfl, x, CH, dx, [], rfl, s1 _ _ hx, T.cH, T.nEnds, by show 0 < 1000; decide, ?_⟩
    refine ⟨_, rfl, _, rfl, x, CH, dx, _, rfl, upd_same, T.cH, T.nHalls, by show 1 < 1000; decide, ?_⟩
    dsimp only
    refine seq_cut (t := sFld _ _ _ _) (fun σ' H' => σ' = [some (.ref x), some (nv N), some (.ref t), none, none] ∧ (∀ b o, H1 b = some o → b ≠ x → H' b = some o) ∧ H' x = some (.ins CH dx (hf e (N : Int) t))) (fun NX hNX => ?_) ?_
    · refine ⟨_, rfl, _, rfl, x, CH, dx, _, rfl, upd_same, T.cH, T.nDoors, by show 2 < 1000; decide, ?_⟩
      refine hNX _ _ ⟨rfl, fun b o h n => ?_, upd_same⟩
      rw [upd_ne n, upd_ne n, upd_ne n]
      exact h
    rintro σ H4 ⟨rfl, old, hx4⟩
    have ntx : ∀ {b : Addr} {o : HO}, H b = some o → (∀ C d fs, o ≠ .ins C d fs) → H4 b = some o := fun {b o} h n => old b o (s1 _ _ h) (ne_of h hx (n _ _ _))
    have he4 : H4 e = some (.dT kvs) := old e _ he (ne_of he (s1 _ _ hx) (fun z => by cases z))
    have HA : HouseAt CH H4 x N E := ⟨dx, e, t, kvs, ts, ds, hx4, he4, R, ntx DA.t (fun _ _ _ z => by cases z), Paired.mapP DA.d fun t' d h => ntx h (fun _ _ _ z => by cases z), DA.D, DA.len⟩
    refine ⟨_, rfl, x, CH, dx, _, _, rfl, hx4, T.cH, T.nEnds, hf_ends _ _ _, _, rfl, x, dx, _, rfl, hx4, hf_no _ _ _ (by decide +kernel) (by decide +kernel) (by decide +kernel), ?_⟩
    refine ⟨x, N, E, rfl, HA, fun h c y hy => ⟨DA.g.g.ne _ _ _ hy, DA.g.g.sym _ _ _ hy⟩, fun H5 p5 cs s5 n5 h5 hcs hl5 _ => ?_⟩
    refine ⟨e, p5, kvs, E, N, (· ∈ ws), cs, rfl, s5 _ _ he4, R, DA.g.g, hN, h5, fun h c y hy => (hcs c).2 ⟨h, y, hy⟩, fun H6 p6 s6 n6 h6 => ?_⟩
    refine ⟨_, rfl, by show 1 ≤ sizeLine; decide, fun l hl => ?_⟩
    refine ⟨p6, l, _, _, rfl, rfl, at_in h6 hl, upd_same, hsz, fun r hr' => ?_⟩
    have s7 : Same H4 (upd (upd H6 l (.lst [nv N])) r (.lst ((List.range N).map nv ++ [nv N]))) := (s5.trans s6).trans ((same_upd hl).trans (same_upd hr'))
    have hr7 : (upd (upd H6 l (.lst [nv N])) r (.lst ((List.range N).map nv ++ [nv N]))) r = some (.lst ((List.range (N + 1)).map nv)) := by
      rw [upd_same, List.range_succ, map_snoc]
    refine ⟨r, _, rfl, SqL.of upd_same, ?_⟩
    refine for_gen (J := Ite K r) (n := N + 1) (fun i σ H' => ∃ v3 v4, σ = [some (.ref x), some (nv N), some (.ref t), v3, v4] ∧ Same H4 H' ∧ H' r = some (.lst ((List.range (N + 1)).map nv))) ⟨_, _, rfl, s7, hr7⟩
      (fun i σ H' hi ⟨_, _, _, _, h⟩ => ⟨_, nv i, SqL.of h, by rw [List.getElem?_map, List.getElem?_range hi]; rfl⟩) (fun σ H' ⟨_, _, _, _, h⟩ => ⟨_, SqL.of h, by rw [List.length_map, List.length_range]; exact Nat.le_refl _⟩) ?_ ?_
    · rintro i y σ H7 H8 hi ⟨v3, v4, rfl, s8, h8⟩ ⟨T1, z, rfl, hT, rfl, hz⟩
      have ez : z = nv i := by
        have := hz _ (SqL.of h8)
        rw [List.getElem?_map, List.getElem?_range hi] at this
        exact (Option.some.inj this).symm
      subst ez
      refine ⟨T1, _, rfl, SqT.of upd_same, rfl, _, _, rfl, _, _, rfl, rfl, ?_⟩
      refine ⟨_, rfl, _, rfl, _, _, rfl, rfl, _, rfl, ?_⟩
      rw [decide_eq_false (Int.lt_irrefl _)]
      exact iteF ⟨_, _, rfl, s8.trans (same_upd hT), at_in h8 hT⟩
    · rintro σ H7 ⟨v3, v4, rfl, s8, h8⟩
      refine q _ (fun b o h n => s8 _ _ (old b o (s1 _ _ h) n)) (HA.mono (Le.of_same s8))

/-! ### check_ends -/
def spChkEnds (CH : Addr) : Sp := fun vs H Q _ => ∃ (a : Addr) (N : Nat) (E : Ends) (s g : Nat), vs = [.ref a, nv s, nv g] ∧ HouseAt CH H a N E ∧ s < N ∧ g < N ∧ Q .non H
theorem scChkEnds : FnScope ["house", "start", "goal"] ["house", "start", "goal"] (defScope sChkEnds) := ⟨rfl, rfl, rfl, by decide +kernel, rfl, by decide +kernel, by decide +kernel⟩
theorem ok_chkEnds {f : Addr} {fd : FuncData} (F : L2.Fun K "check_ends" "check_ends" sChkEnds f fd) (cA : Cal P w K mg base 1 "check_house" (spChkHouse CH)) (cB : Cal P w K mg base 2 "check_hall" (spChkHall CH)) : FnOk P w K mg base CX0 3 f fd ["house", "start", "goal"] (spChkEnds CH) := by
  refine F.ok scChkEnds (fun vs H Q E h => ?_) (fun cdv A outer s H vs Q E hr h => ?_)
  · obtain ⟨a, N, E, s, g, rfl, _⟩ := h
    rfl
  · obtain ⟨a, N, E, s, g, rfl, hh, hs, hg, q⟩ := h
    refine ⟨_, pss_cons (ps_expr (pe_c cA hr (by decide) (by rfl) (pa_cons (pv 0) pa_nil))) (pss_cons (ps_expr (pe_c cB hr (by decide) (by rfl) (pa_cons (pv 0) (pa_cons (pv 1) pa_nil))))
      (pss_one (ps_expr (pe_c cB hr (by decide) (by rfl) (pa_cons (pv 0) (pa_cons (pv 2) pa_nil)))))), ?_⟩
    refine ⟨_, rfl, a, N, E, rfl, hh, ?_⟩
    refine ⟨_, rfl, _, rfl, a, N, E, s, rfl, hh, hs, ?_⟩
    exact ⟨_, rfl, _, rfl, a, N, E, g, rfl, hh, hg, q⟩

/-! ### the dict of what is found -/
theorem val_getN {kvs : List (List Key × V)} {E : Ends} (R : Rep kvs E) (h : Nat) (c : Str) (z : Nat) : (valV kvs (EKey h c)).getD (nv z) = nv ((E h c).getD z) := by
  rw [R.val]
  cases E h c <;> rfl
noncomputable def fk (E : Ends) (s : Nat) (order : List Nat) : List (Key × V) := order.map fun x : Nat => ((Sum.inl (x : Int) : Key), nv (Dm.dist E s x))
theorem fk_get (E : Ends) (s : Nat) (y : Nat) : ∀ order : List Nat, valV (fk E s order) (.inl (y : Int)) = if y ∈ order then some (nv (Dm.dist E s y)) else none
  | [] => rfl
  | x :: r => by
    by_cases h : x = y
    · subst h
      rw [if_pos List.mem_cons_self]
      exact valV_pos rfl
    · have e : valV (fk E s (x :: r)) (.inl (y : Int)) = valV (fk E s r) (.inl (y : Int)) := valV_neg (fun z => h (by
        have z : (Sum.inl (x : Int) : Key) = .inl (y : Int) := z
        have := Sum.inl.inj z
        omega))
      rw [e, fk_get E s y r]
      by_cases h2 : y ∈ r
      · rw [if_pos h2, if_pos (List.mem_cons_of_mem _ h2)]
      · rw [if_neg h2, if_neg]
        intro z
        rcases List.mem_cons.mp z with z | z
        · exact h z.symm
        · exact h2 z
theorem fk_put {E : Ends} {s y : Nat} {order : List Nat} (h : y ∉ order) : putK (fk E s order) (.inl (y : Int)) (nv (Dm.dist E s y)) = fk E s (order ++ [y]) := by
  unfold putK
  rw [valV_any, fk_get, if_neg h]
  show fk E s order ++ _ = _
  unfold fk
  rw [List.map_append]
  rfl
theorem fk_one {E : Ends} {s : Nat} : mergeK [] [((Sum.inl (s : Int) : Key), V.int 0)] = fk E s [s] := by
  show [((Sum.inl (s : Int) : Key), V.int 0)] = [((Sum.inl (s : Int) : Key), nv (Dm.dist E s s))]
  rw [Dm.dist_self]
  rfl

/-! ### distances_from -/
def spDistFrom (CH : Addr) : Sp := fun vs H Q _ => ∃ (a : Addr) (N : Nat) (ws : List Str) (E : Ends) (s : Nat), vs = [.ref a, nv s] ∧ HouseAt CH H a N E ∧ Good N ws E ∧ s < N ∧
  ∀ H' p, Same H H' → H p = none → H' p = some (.lst ((List.range N).map fun y => nv (Dm.dist E s y))) → Q (.ref p) H'
theorem scDistFrom : FnScope ["house", "start", "known", "found", "order", "at", "colour", "there", "hall"] ["house", "start"] (defScope sDistFrom) := ⟨rfl, rfl, rfl, by decide +kernel, rfl, by decide +kernel, by decide +kernel⟩
set_option maxHeartbeats 2000000 in
theorem ok_distFrom {f : Addr} {fd : FuncData} (F : L2.Fun K "distances_from" "distances_from" sDistFrom f fd) (T : Txt K mg CH CC) (mC : Met P w K mg base 1 CH "colours" (spColours CH)) : FnOk P w K mg base CX0 2 f fd ["house", "start"] (spDistFrom CH) := by
  refine F.ok scDistFrom (fun vs H Q E h => ?_) (fun cdv A outer s0 H vs Q E hr h => ?_)
  · obtain ⟨a, N, ws, E, s, rfl, _⟩ := h
    rfl
  · obtain ⟨a, N, ws, E, s, rfl, hh, G, hs, q⟩ := h
    have hu := hu_of hr
    refine ⟨_, pss_cons (ps_asg (pe_tup (pa_cons (pe_mt0 mC hr (by decide) (pv 0)) (pa_cons (pe_disp (pps_cons (pv 1) pe_int pps_nil) (by rfl) (by rfl) (fun z => by cases z) (by decide)) (pa_cons (pe_lst (pa_cons (pv 1) pa_nil)) (pa_cons pe_int pa_nil)))))
        (pg_tup rfl (pgs_cons (pg_name (i := 2) scDistFrom.nd rfl (Or.inl rfl)) (pgs_cons (pg_name (i := 3) scDistFrom.nd rfl (Or.inr rfl)) (pgs_cons (pg_name (i := 4) scDistFrom.nd rfl (Or.inl rfl)) (pgs_cons (pg_name (i := 5) scDistFrom.nd rfl (Or.inl rfl)) pgs_nil))))))
      (pss_cons (ps_while PassesOwn.never (pt_cmpR op_lt (pv 5) (pe_callB call_len_seq (by rfl) T.zlen boot_len (pa_cons (pv 4) pa_nil)) (nomark _))
        (pss_cons (ps_for PassesOwn.never rfl (pi_tup (pv 2)) (pg_name (i := 6) scDistFrom.nd rfl (Or.inl rfl))
          (pss_cons (ps_set (i := 7) scDistFrom.nd rfl (Or.inl rfl) (pe_dget2 hu (pe_fld (pv 0) rfl) (pe_tup (pa_cons (pe_ix ix_list (pv 4) (pv 5) (fun _ _ => rfl)) (pa_cons (pv 6) pa_nil))) (pv 1) ⟨rfl, rfl, rfl, rfl⟩))
          (pss_one (ps_if (pt_cmp (pc_dnotin hu (pv 7) (pv 3)) rfl)
            (pss_cons (ps_dput hu (pv 3) (pv 7) (pe_op op_add (pe_dget hu (pv 3) (pe_ix ix_list (pv 4) (pv 5) (fun _ _ => rfl)) (fun _ _ => rfl)) pe_int) rfl)
              (pss_one (ps_expr (pe_bm PySem.F.plainAttrs_list PySem.F.slot_list_append PySem.F.type_list_append mt_append (pv 4) (pa_cons (pv 7) pa_nil))))) pss_nil))))
        (pss_one (ps_aug (i := 5) scDistFrom.nd rfl (.inl rfl) pe_int ip_add))))
      (pss_one (ps_ret (pe_lc (own := [("hall", 8)]) (g := gName 8) (tt := tYes) rfl scDistFrom.nd (pi_range1 rfl T.zrange (pa_cons (pe_fld (pv 0) rfl) pa_nil)) (blkOk_by (N := ["house", "start", "known", "found", "order", "at", "colour", "there", "hall"]) (sc := defScope sDistFrom) (by decide +kernel)) (fun _ _ _ _ _ => pg_name (i := 8) scDistFrom.nd rfl (Or.inl rfl)) (fun _ _ _ _ _ => pts_nil)
          (fun _ _ _ _ _ => pe_dget hu (pv 3) (pv 8) (fun _ _ => rfl)))))), ?_⟩
    obtain ⟨dx, e, t, kvs, ts, ds, h1, h2, R, _⟩ := hh.ex
    have h64 : (64 : Nat) < sizeLine := by decide
    refine ⟨_, rfl, a, dx, _, rfl, h1, hf_no _ _ _ (by decide +kernel) (by decide +kernel) (by decide +kernel), ?_⟩
    refine ⟨a, N, E, rfl, hh, fun h c y hy => ⟨G.g.ne _ _ _ hy, G.g.sym _ _ _ hy⟩, fun H1 kn cs s1 n1 hk hcs hl1 _ => ?_⟩
    refine fun d hd => ⟨_, rfl, ?_⟩
    refine ⟨upd_same, [((Sum.inl (s : Int) : Key), V.int 0)], rfl, by show 1 ≤ 15; decide, ?_⟩
    rw [fk_one (E := E)]
    have hd0 : H d = none := s1.free hd
    have s2 : Same H (upd (upd H1 d (.dK [])) d (.dK (fk E s [s]))) := same_in (same_in s1 hd0) hd0
    have hk2 : (upd (upd H1 d (.dK [])) d (.dK (fk E s [s]))) kn = some (.tup (cs.map V.str)) := by
      have : kn ≠ d := ne_of_none hk hd
      rw [upd_ne this, upd_ne this]
      exact hk
    have hd2 : (upd (upd H1 d (.dK [])) d (.dK (fk E s [s]))) d = some (.dK (fk E s [s])) := upd_same
    generalize upd (upd H1 d (.dK [])) d (.dK (fk E s [s])) = H2 at s2 hk2 hd2
    refine ⟨_, rfl, by show 1 ≤ sizeLine; decide, fun o ho => ?_⟩
    have ho0 : H o = none := s2.free ho
    refine ⟨by show 4 ≤ sizeLine; decide, fun p hp => ?_⟩
    have hpo : (upd H2 o (.lst [nv s])) p = none := hp
    have s3 : Same H (upd (upd H2 o (.lst [nv s])) p (.tup [.ref kn, .ref d, .ref o, .int 0])) := same_in (same_in s2 ho0) ((same_in s2 ho0).free hp)
    refine ⟨p, _, rfl, SqT.of upd_same, rfl, _, _, rfl, _, _, rfl, _, _, rfl, _, _, rfl, rfl, ?_⟩
    have hk3 : (upd (upd H2 o (.lst [nv s])) p (.tup [.ref kn, .ref d, .ref o, .int 0])) kn = some (.tup (cs.map V.str)) := at_in (at_in hk2 ho) hp
    have hd3 : (upd (upd H2 o (.lst [nv s])) p (.tup [.ref kn, .ref d, .ref o, .int 0])) d = some (.dK (fk E s [s])) := at_in (at_in hd2 ho) hp
    have ho3 : (upd (upd H2 o (.lst [nv s])) p (.tup [.ref kn, .ref d, .ref o, .int 0])) o = some (.lst [nv s]) := at_in upd_same hp
    have hod : o ≠ d := (ne_of_none hd2 ho).symm
    have hok : kn ≠ o := ne_of_none hk2 ho
    have hdk : kn ≠ d := ne_of hk2 hd2 (fun z => by cases z)
    clear hp hpo hk hk2 hd2
    revert s3 hk3 hd3 ho3
    generalize upd (upd H2 o (.lst [nv s])) p (.tup [.ref kn, .ref d, .ref o, .int 0]) = H3
    intro s3 hk3 hd3 ho3
    refine ⟨fun m σ H' => ∃ (at_ : Nat) (order : List Nat) (v6 v7 v8 : Option V), m = 65 - at_ ∧ σ = [some (.ref a), some (nv s), some (.ref kn), some (.ref d), some (.ref o), some (nv at_), v6, v7, v8] ∧ Same H H' ∧ H' kn = some (.tup (cs.map V.str)) ∧ H' o = some (.lst (order.map nv)) ∧ H' d = some (.dK (fk E s order)) ∧ Dm.Bfs E s order at_,
      ⟨_, 0, [s], none, none, none, rfl, rfl, s3, hk3, ho3, hd3, Dm.Bfs.start s⟩, ?_⟩
    clear s3 hk3 hd3 ho3 s2
    rintro m σ H4 ⟨at_, order, v6, v7, v8, rfl, rfl, sm, hk, hoo, hdd, B⟩
    have hN := G.le
    have hlen := B.len G.g hs
    refine ⟨_, rfl, _, rfl, o, _, rfl, .inl (SqL.of hoo), _, _, rfl, rfl, _, rfl, ?_⟩
    rw [List.length_map]
    refine ite2 (fun hlt => ?_) (fun hge => ?_)
    · have hlt : at_ < order.length := by have := of_decide_eq_true hlt; omega
      obtain ⟨x, hx⟩ : ∃ x, order[at_]? = some x := ⟨_, List.getElem?_eq_getElem hlt⟩
      refine ⟨fun σ' H' => ∃ (order : List Nat) (v6 v7 v8 : Option V), σ' = [some (.ref a), some (nv s), some (.ref kn), some (.ref d), some (.ref o), some (nv (at_ + 1)), v6, v7, v8] ∧ Same H H' ∧ H' kn = some (.tup (cs.map V.str)) ∧ H' o = some (.lst (order.map nv)) ∧ H' d = some (.dK (fk E s order)) ∧ Dm.Bfs E s order (at_ + 1),
        fun σ' H' ⟨order, v6, v7, v8, e1, e2, e3, e4, e5, e6⟩ => ⟨_, by omega, at_ + 1, order, v6, v7, v8, rfl, e1, e2, e3, e4, e5, e6⟩, ?_⟩
      refine ⟨_, rfl, kn, rfl, ⟨_, SqT.of hk⟩, for_tup (K := K) (a := kn) (xs := cs.map V.str) (fun i σ H' => ∃ (order : List Nat) (v6 v7 v8 : Option V), σ = [some (.ref a), some (nv s), some (.ref kn), some (.ref d), some (.ref o), some (nv at_), v6, v7, v8] ∧ Same H H' ∧ H' kn = some (.tup (cs.map V.str)) ∧ H' o = some (.lst (order.map nv)) ∧ H' d = some (.dK (fk E s order)) ∧ Dm.Bfs E s order at_ ∧ order[at_]? = some x ∧
        ∀ j, j < i → ∀ c, cs[j]? = some c → ∀ y, E x c = some y → y ∈ order) ⟨order, v6, v7, v8, rfl, sm, hk, hoo, hdd, B, hx, fun j hj => absurd hj (Nat.not_lt_zero _)⟩ (fun i σ H' _ ⟨_, _, _, _, _, _, hk, _⟩ => SqT.of hk) ?_ ?_⟩
      · clear hlen hlt hk hoo hdd sm B hx
        rintro i y σ H5 hi ⟨order, v6, v7, v8, rfl, sm, hk, hoo, hdd, B, hx, done⟩
        obtain ⟨c, hc, rfl⟩ := get_map hi
        have hlen := B.len G.g hs
        have hat : atI (order.map nv) ((at_ : Nat) : Int) = some (nv x) := atI_nat (by rw [List.getElem?_map, hx]; rfl)
        refine ⟨_, rfl, a, CH, dx, _, _, rfl, sm _ _ h1, T.cH, T.nEnds, hf_ends _ _ _, e, rfl, .inr ⟨_, .inl (sm _ _ h2)⟩, _, rfl, _, rfl, o, _, _, _, rfl, rfl, SqL.of hoo, hat, _, rfl, by show 2 ≤ sizeLine; decide, fun p hp => ?_⟩
        have hkp : (upd H5 p (.tup [nv x, .str c])) p = some (.tup ((EKey x c).map kV)) := upd_same
        refine ⟨_, rfl, _, DGet.t (at_in (sm _ _ h2) hp) hkp, ?_⟩
        rw [val_getN R]
        have sm' : Same H (upd H5 p (.tup [nv x, .str c])) := same_in sm (sm.free hp)
        have hk' := at_in (u := .tup [nv x, .str c]) hk hp
        have hoo' := at_in (u := .tup [nv x, .str c]) hoo hp
        have hdd' := at_in (u := .tup [nv x, .str c]) hdd hp
        obtain ⟨z, hzv, z1, z2, z3⟩ : ∃ z : Nat, (E x c).getD s = z ∧ (∀ y, E x c = some y → y = z) ∧ (E x c = none → z ∈ order) ∧ (z ∉ order → E x c = some z) := by
          cases hE : E x c with
          | none => exact ⟨s, rfl, fun y h => (by cases h), fun _ => B.src, fun h => absurd B.src h⟩
          | some z => exact ⟨z, rfl, fun y h => (Option.some.inj h).symm, fun h => (by cases h), fun _ => rfl⟩
        rw [hzv]
        clear hkp sm hk hoo hdd hzv
        revert sm' hk' hoo' hdd'
        dsimp only
        generalize upd H5 p (.tup [nv x, .str c]) = H6
        intro sm hk hoo hdd
        have hg := fk_get E s z order
        have fin : ∀ j, j < i + 1 → ∀ order' : List Nat, (∀ u ∈ order, u ∈ order') → z ∈ order' → ∀ c', cs[j]? = some c' → ∀ y', E x c' = some y' → y' ∈ order' := fun j hj order' hsub hz c' hc' y' hy' => by
          rcases Nat.lt_or_ge j i with q' | q'
          · exact hsub _ (done j q' c' hc' y' hy')
          · have ej : j = i := by omega
            rw [ej, hc] at hc'
            rw [← Option.some.inj hc'] at hy'
            rw [z1 y' hy']
            exact hz
        refine ⟨_, rfl, _, rfl, d, _, rfl, DGet.k (k := Sum.inl (z : Int)) hdd, _, rfl, ?_⟩
        by_cases hz : z ∈ order
        · rw [hg, if_pos hz]
          exact iteF ⟨order, _, _, _, rfl, sm, hk, hoo, hdd, B, hx, fun j hj => fin j hj order (fun _ h => h) hz⟩
        · rw [hg, if_neg hz]
          refine iteT ?_
          have hez := z3 hz
          have B2 := B.push hx hez hz
          have hdist := B.new hx hez hz
          have hxo : x ∈ order := List.mem_of_getElem? hx
          have hgx := fk_get E s x order
          rw [if_pos hxo] at hgx
          have ev : V.int (((Dm.dist E s x : Nat) : Int) + 1) = nv (Dm.dist E s z) := by rw [hdist]; rfl
          have hput : DPut H6 d (nv z) (V.int (((Dm.dist E s x : Nat) : Int) + 1)) (upd H6 d (.dK (fk E s (order ++ [z])))) := by
            have := DPut.k (k := Sum.inl (z : Int)) (v := V.int (((Dm.dist E s x : Nat) : Int) + 1)) hdd (by unfold fk; rw [List.length_map]; omega)
            rw [ev, fk_put hz] at this
            rw [ev]
            exact this
          refine ⟨_, rfl, _, rfl, _, rfl, o, _, _, _, rfl, rfl, SqL.of hoo, hat, d, nv (Dm.dist E s x), rfl, by rw [← hgx]; exact DGet.k (k := Sum.inl (x : Int)) hdd, _, _, rfl, rfl, ?_⟩
          refine ⟨_, rfl, _, rfl, d, _, rfl, hput, ?_⟩
          have hoo2 : (upd H6 d (.dK (fk E s (order ++ [z])))) o = some (.lst (order.map nv)) := by
            rw [upd_ne hod]
            exact hoo
          refine ⟨_, rfl, .inl ⟨rfl, _, SqL.of hoo2⟩, _, rfl, o, _, _, rfl, rfl, hoo2, by rw [List.length_map]; omega, ?_⟩
          refine ⟨order ++ [z], _, _, _, rfl, same_in (same_in sm hd0) ho0, ?_, by rw [upd_same, map_snoc], ?_, B2, ?_, fun j hj => fin j hj _ (fun _ h => List.mem_append_left _ h) (List.mem_append_right _ (List.mem_singleton.mpr rfl))⟩
          · rw [upd_ne hok, upd_ne hdk]
            exact hk
          · rw [upd_ne hod.symm, upd_same]
          · rw [List.getElem?_append_left (by exact (List.getElem?_eq_some_iff.mp hx).1)]
            exact hx
      · rintro σ H5 ⟨order, v6, v7, v8, rfl, sm, hk, hoo, hdd, B, hx, done⟩
        refine ⟨_, rfl, _, _, rfl, rfl, ?_⟩
        refine ⟨order, _, _, _, rfl, sm, hk, hoo, hdd, B.next hx fun c y hy => ?_⟩
        obtain ⟨j, hj⟩ := List.mem_iff_getElem?.mp ((hcs c).2 ⟨x, y, hy⟩)
        have hj' := (List.getElem?_eq_some_iff.mp hj).1
        exact done j (by rw [List.length_map]; exact hj') c hj y hy
    · have hge : order.length ≤ at_ := by
        rcases Nat.lt_or_ge at_ order.length with z | z
        · exact absurd (decide_eq_true (show ((at_ : Nat) : Int) < ((order.length : Nat) : Int) by omega)) hge
        · exact z
      refine ⟨_, rfl, a, CH, dx, _, _, rfl, sm _ _ h1, T.cH, T.nHalls, hf_halls _ _ _, (N : Int), rfl, by omega, by omega, fun D hD => ?_⟩
      have hD0 := sm.free hD
      refine lc_range (lo := 0) (n := (N : Int).toNat) (fun i H' => Same H H' ∧ H' d = some (.dK (fk E s order)) ∧ H' D = some (.lst ((List.range i).map fun y => nv (Dm.dist E s y)))) ⟨same_in sm hD0, at_in hdd hD, upd_same⟩ ?_ ?_
      · rintro i H5 hi ⟨s5, hd5, hD5⟩
        have hi : i < N := by omega
        refine ⟨rfl, tyes ?_⟩
        have hgi := fk_get E s i order
        rw [if_pos (B.all G.g hs hge hi)] at hgi
        refine ⟨_, rfl, _, rfl, d, nv (Dm.dist E s i), rfl, ?_, ?_⟩
        · rw [← hgi]
          have e0 : V.int (0 + ((i : Nat) : Int)) = kV (Sum.inl (i : Int)) := by rw [Int.zero_add]; rfl
          rw [e0]
          exact DGet.k (k := Sum.inl (i : Int)) hd5
        · refine ⟨_, hD5, by rw [List.length_map, List.length_range]; omega, same_in s5 hD0, ?_, ?_⟩
          · rw [upd_ne (ne_of hd5 hD5 fun z => by cases z)]
            exact hd5
          · rw [upd_same, List.range_succ, map_snoc]
      · rintro H5 ⟨s5, hd5, hD5⟩
        exact q _ D s5 hD0 (by simpa using hD5)

/-! ### distance -/
def spDist (CH : Addr) : Sp := fun vs H Q _ => ∃ (a : Addr) (N : Nat) (ws : List Str) (E : Ends) (s g : Nat), vs = [.ref a, nv s, nv g] ∧ HouseAt CH H a N E ∧ Good N ws E ∧ s < N ∧ g < N ∧
  ∀ H', Same H H' → Q (nv (Dm.dist E s g)) H'
theorem scDist : FnScope ["house", "start", "goal"] ["house", "start", "goal"] (defScope sDist) := ⟨rfl, rfl, rfl, by decide +kernel, rfl, by decide +kernel, by decide +kernel⟩
theorem ok_dist {f : Addr} {fd : FuncData} (F : L2.Fun K "distance" "distance" sDist f fd) (cE : Cal P w K mg base 3 "check_ends" (spChkEnds CH)) (cD : Cal P w K mg base 2 "distances_from" (spDistFrom CH)) : FnOk P w K mg base CX0 4 f fd ["house", "start", "goal"] (spDist CH) := by
  refine F.ok scDist (fun vs H Q E h => ?_) (fun cdv A outer s0 H vs Q E hr h => ?_)
  · obtain ⟨a, N, ws, E, s, g, rfl, _⟩ := h
    rfl
  · obtain ⟨a, N, ws, E, s, g, rfl, hh, G, hs, hg, q⟩ := h
    refine ⟨_, pss_cons (ps_expr (pe_c cE hr (by decide) (by rfl) (pa_cons (pv 0) (pa_cons (pv 1) (pa_cons (pv 2) pa_nil)))))
      (pss_one (ps_ret (pe_ix ix_list (pe_c cD hr (by decide) (by rfl) (pa_cons (pv 0) (pa_cons (pv 1) pa_nil))) (pv 2) (fun _ _ => rfl)))), ?_⟩
    refine ⟨_, rfl, _, rfl, _, rfl, a, N, E, s, g, rfl, hh, hs, hg, ?_⟩
    refine ⟨_, rfl, _, rfl, a, N, ws, E, s, rfl, hh, G, hs, fun H' p s1 n1 hp => ?_⟩
    exact ⟨_, rfl, p, _, _, _, rfl, rfl, SqL.of hp, atI_nat (by rw [List.getElem?_map, List.getElem?_range hg]; rfl), q _ s1⟩
end
end DL

/-! castles: check_parts, check_address, Castle.__init__, origin, distance -/
namespace DL
open PySem L2 DI DO DS DD DT RZ

/-- a house as the law makes it -/
structure Model where
  N : Nat
  ws : List Str
  E : Ends
structure Fit (ms : List Model) : Prop where
  good : ∀ m ∈ ms, Good m.N m.ws m.E
  col : ∀ m ∈ ms, ∀ c ∈ m.ws, Colour c
  wl : ∀ m ∈ ms, m.ws.length ≤ 15
  sz : (ms.map fun m => m.N * m.ws.length).sum ≤ 1000
  dj : ms.Pairwise fun m m' => ∀ c, c ∈ m.ws → c ∈ m'.ws → False
  len : ms.length ≤ 72
structure PartsAt (CH : Addr) (H : Hp) (t : Addr) (hs : List Addr) (ms : List Model) : Prop where
  t : H t = some (.tup (hs.map V.ref))
  d : Paired (fun a m => HouseAt CH H a m.N m.E) hs ms
theorem PartsAt.mono {CH : Addr} {H H' : Hp} {t : Addr} {hs : List Addr} {ms : List Model} (h : PartsAt CH H t hs ms) (s : Le H H') : PartsAt CH H' t hs ms := ⟨s _ _ h.t trivial, Paired.mapP h.d fun _ _ x => x.mono s⟩
def cf (t d : Addr) : List (Str × V) := putF "part_of" (.ref d) (putF "parts" (.ref t) [])
theorem cf_parts (t d : Addr) : (cf t d).lookup ("parts" : Str) = some (.ref t) := by
  unfold cf
  rw [lookup_putF, if_neg (by decide +kernel), lookup_putF, if_pos rfl]
theorem cf_ne (t d : Addr) : cf t d ≠ [] := fun z => by
  have := cf_parts t d
  rw [z] at this
  cases this
theorem cf_no (t d : Addr) {m : Str} (h1 : ¬ m = "part_of") (h2 : ¬ m = "parts") : (cf t d).lookup m = none := by
  unfold cf
  rw [lookup_putF, if_neg h1, lookup_putF, if_neg h2]
  rfl
structure CastleAt (CH CC : Addr) (H : Hp) (a : Addr) (ms : List Model) : Prop where
  ex : ∃ (dx t d : Addr) (hs : List Addr), H a = some (.ins CC dx (cf t d)) ∧ PartsAt CH H t hs ms
theorem CastleAt.mono {CH CC : Addr} {H H' : Hp} {a : Addr} {ms : List Model} (h : CastleAt CH CC H a ms) (s : Le H H') : CastleAt CH CC H' a ms := by
  obtain ⟨dx, t, d, hs, h1, h2⟩ := h.ex
  exact ⟨dx, t, d, hs, s _ _ h1 (cf_ne _ _), h2.mono s⟩
/-- an address: a hall of each part -/
abbrev Spot (ms : List Model) (xs : List Nat) : Prop := Paired (fun (m : Model) (x : Nat) => x < m.N) ms xs
/-- the sum of the parts' distances -/
noncomputable def apart : List Model → List Nat → List Nat → Nat
  | m :: ms, x :: xs, y :: ys => Dm.dist m.E x y + apart ms xs ys
  | _, _, _ => 0

section
variable {P : Program} {w : World} {K : PySem.W.Frag} {mg : Str → Option Value} {base : Heap} {CH CC : Addr}

/-! ### the check of the parts -/
def spChkParts (CH : Addr) : Sp := fun vs H Q _ => ∃ (t : Addr) (hs : List Addr) (ms : List Model), vs = [.ref t] ∧ PartsAt CH H t hs ms ∧ Fit ms ∧ ∀ H', Same H H' → Q .non H'
theorem scChkParts : FnScope ["value", "taken", "at", "house", "colour"] ["value"] (defScope sChkParts) := ⟨rfl, rfl, rfl, by decide +kernel, rfl, by decide +kernel, by decide +kernel⟩
theorem ok_chkParts {f : Addr} {fd : FuncData} (F : L2.Fun K "check_castle_parts" "check_castle_parts" sChkParts f fd) (T : Txt K mg CH CC) (mC : Met P w K mg base 1 CH "colours" (spColours CH)) : FnOk P w K mg base CX0 2 f fd ["value"] (spChkParts CH) := by
  refine F.ok scChkParts (fun vs H Q E h => ?_) (fun cdv A outer s H vs Q E hr h => ?_)
  · obtain ⟨t, hs, ms, rfl, _⟩ := h
    rfl
  · obtain ⟨t, hs, ms, rfl, PA, F', q⟩ := h
    have hu := hu_of hr
    obtain ⟨tp, hp⟩ := T.gParts
    refine ⟨_, pss_cons (ps_if (PW.pt (pw_or (pt_not (pt_val (pe_callB call_isi (by rfl) T.zisi PyProof.Rows.boot_isinstance (pa_cons (pv 0) (pa_cons (pe_bltn (v := .ty "tuple") (by rfl) T.ztuple PyProof.Rows.boot_tuple rfl) pa_nil)))))
          (pw_or1 (pt_cmpR op_gt (pe_callB call_len_seq (by rfl) T.zlen boot_len (pa_cons (pv 0) pa_nil)) (pe_glob (v := .int 72) (by rfl) hp ⟨_, rfl⟩) (nomark _))))) (pss_one ps_never) pss_nil)
      (pss_cons (ps_set (i := 1) scChkParts.nd rfl (Or.inl rfl) pe_dnewK)
      (pss_one (ps_for PassesOwn.never rfl (pi_enumT (by rfl) T.zenum (pa_cons (pv 0) pa_nil)) (pg_tup rfl (pgs_cons (pg_name (i := 2) scChkParts.nd rfl (Or.inl rfl)) (pgs_cons (pg_name (i := 3) scChkParts.nd rfl (Or.inl rfl)) pgs_nil)))
        (pss_cons (ps_if (PW.pt (pw_or (pt_not (pt_val (pe_callB (C8.call_isC T.isiH) (by rfl) T.zisi PyProof.Rows.boot_isinstance (pa_cons (pv 3) (pa_cons (pe_glob (v := .ref CH) (by rfl) T.gHouse rfl) pa_nil)))))
            (pw_or1 (pt_cmpR op_lt (pe_fld (pv 3) rfl) pe_int (nomark _))))) (pss_one ps_never) pss_nil)
        (pss_one (ps_for PassesOwn.never rfl (pi_tup (pe_mt0 mC hr (by decide) (pv 3))) (pg_name (i := 4) scChkParts.nd rfl (Or.inl rfl))
          (pss_cons (ps_if (pt_cmp (pc_din hu (pv 4) (pv 1))) (pss_one ps_never) pss_nil)
          (pss_one (ps_dput hu (pv 1) (pv 4) pe_bl rfl))))))))), ?_⟩
    have hml : hs.length = ms.length := PA.d.length
    have hl72 := F'.len
    have hsz : (4000 : Nat) < sizeLine := by decide
    refine ⟨_, rfl, _, _, _, _, true, rfl, .ty "tuple", .base (.tup PA.t), kit_ty (by decide +kernel), true, rfl, iteF ?_⟩
    refine ⟨_, rfl, t, _, rfl, .inr (SqT.of PA.t), _, _, rfl, rfl, _, rfl, ?_⟩
    rw [List.length_map, decide_eq_false (show ¬ (72 : Int) < ((hs.length : Nat) : Int) by omega)]
    refine iteF fun d hd => ?_
    have sm0 : Same H (upd H d (.dK [])) := same_upd hd
    refine ⟨_, rfl, t, _, rfl, SqT.of (sm0 _ _ PA.t), ?_⟩
    refine for_gen (J := IteT K t) (n := hs.length) (fun i σ H' => ∃ (kvs : List (Key × V)) (v2 v3 v4 : Option V), σ = [some (.ref t), some (.ref d), v2, v3, v4] ∧ Same H H' ∧ H' d = some (.dK kvs) ∧ kvs.length ≤ 16 * i ∧ ∀ c v, valV kvs (.inr c) = some v → ∃ j m, j < i ∧ ms[j]? = some m ∧ c ∈ m.ws)
      ⟨[], none, none, none, rfl, sm0, upd_same, Nat.le_refl _, fun c v h => by cases h⟩
      (fun i σ H' hi ⟨_, _, _, _, _, s', _⟩ => ⟨_, V.ref (hs[i]), SqT.of (s' _ _ PA.t), by rw [List.getElem?_map, List.getElem?_eq_getElem hi]; rfl⟩) (fun σ H' ⟨_, _, _, _, _, s', _⟩ => ⟨_, SqT.of (s' _ _ PA.t), by rw [List.length_map]⟩) ?_ ?_
    · rintro i x σ H1 H2 hi ⟨kvs, v2, v3, v4, rfl, sm, hdd, hk, hin⟩ ⟨T1, y, rfl, hT1, rfl, hy⟩
      obtain ⟨a, ha, rfl⟩ := get_map (hy _ (SqT.of (sm _ _ PA.t)))
      obtain ⟨m, hm, hh⟩ := paired_get PA.d ha
      have hmm : m ∈ ms := List.mem_of_getElem? hm
      have G := F'.good m hmm
      have sm : Same H (upd H1 T1 (.tup [.int (i : Nat), .ref a])) := same_in sm (sm.free hT1)
      have hdd : (upd H1 T1 (.tup [.int (i : Nat), .ref a])) d = some (.dK kvs) := at_in hdd hT1
      have hh := hh.mono (Le.of_same sm)
      refine ⟨T1, _, rfl, SqT.of upd_same, rfl, _, _, rfl, _, _, rfl, rfl, ?_⟩
      obtain ⟨dx, e, tt, kvs', ts, ds, h1, _⟩ := id hh.ex
      refine ⟨_, rfl, a, dx, _, rfl, h1, _, rfl, iteF ?_⟩
      refine ⟨_, rfl, a, CH, dx, _, _, rfl, h1, T.cH, T.nHalls, hf_halls _ _ _, _, _, rfl, rfl, _, rfl, ?_⟩
      have h2 := G.g.two
      rw [decide_eq_false (show ¬ ((m.N : Nat) : Int) < 2 by omega)]
      refine iteF ?_
      refine ⟨_, rfl, a, dx, _, rfl, h1, hf_no _ _ _ (by decide +kernel) (by decide +kernel) (by decide +kernel), ?_⟩
      refine ⟨a, m.N, m.E, rfl, hh, fun h c y hy => ⟨G.g.ne _ _ _ hy, G.g.sym _ _ _ hy⟩, fun H5 p5 cs s5 n5 h5 hcs hl5 hnd5 => ?_⟩
      have hcw : ∀ c ∈ cs, c ∈ m.ws := fun c hc => by
        obtain ⟨h, x, e⟩ := (hcs c).1 hc
        exact G.g.col _ _ _ e
      have hcl := nodup_sub cs m.ws hnd5 hcw
      have hwl := F'.wl m hmm
      have sm5 := sm.trans s5
      have hd5 := s5 _ _ hdd
      clear sm s5 hdd
      refine ⟨p5, rfl, ⟨_, SqT.of h5⟩, for_tup (K := K) (a := p5) (xs := cs.map V.str) (fun j σ H' => ∃ (kvs : List (Key × V)) (v4 : Option V), σ = [some (.ref t), some (.ref d), some (.int (i : Nat)), some (.ref a), v4] ∧ Same H H' ∧ H' p5 = some (.tup (cs.map V.str)) ∧ H' d = some (.dK kvs) ∧ kvs.length ≤ 16 * i + j ∧
        ∀ c v, valV kvs (.inr c) = some v → (∃ j m, j < i ∧ ms[j]? = some m ∧ c ∈ m.ws) ∨ c ∈ cs.take j) ⟨kvs, v4, rfl, sm5, h5, hd5, hk, fun c v h => .inl (hin c v h)⟩ (fun j σ H' _ ⟨_, _, _, _, h, _⟩ => SqT.of h) ?_ ?_⟩
      · rintro j x σ H6 hj ⟨kvs, v4, rfl, sm, hp5, hdd, hk, hin⟩
        obtain ⟨c, hc, rfl⟩ := get_map hj
        have hjl := (List.getElem?_eq_some_iff.mp hc).1
        have hcm : c ∈ m.ws := hcw c (List.mem_of_getElem? hc)
        have hno : valV kvs (.inr c) = none := by
          cases e : valV kvs (.inr c) with
          | none => rfl
          | some v =>
            exfalso
            rcases hin c v e with ⟨j', m', hj', hm', hc'⟩ | hc'
            · obtain ⟨l1, e1⟩ := List.getElem?_eq_some_iff.mp hm'
              obtain ⟨l2, e2⟩ := List.getElem?_eq_some_iff.mp hm
              have := List.pairwise_iff_getElem.mp F'.dj j' i l1 l2 hj'
              rw [e1, e2] at this
              exact this c hc' hcm
            · obtain ⟨j2, h2⟩ := List.mem_iff_getElem?.mp hc'
              have hj2 : j2 < j := by
                have := (List.getElem?_eq_some_iff.mp h2).1
                rw [List.length_take] at this
                omega
              rw [List.getElem?_take, if_pos hj2] at h2
              obtain ⟨l1, e1⟩ := List.getElem?_eq_some_iff.mp h2
              obtain ⟨l2, e2⟩ := List.getElem?_eq_some_iff.mp hc
              have := List.pairwise_iff_getElem.mp hnd5 j2 j l1 l2 hj2
              rw [e1, e2] at this
              exact this rfl
        refine ⟨_, rfl, _, rfl, d, none, rfl, by rw [← hno]; exact DGet.k (k := Sum.inr c) hdd, _, rfl, iteF ?_⟩
        have hnp : p5 ≠ d := ne_of hp5 hdd fun z => by cases z
        refine ⟨_, rfl, _, rfl, d, _, rfl, DPut.k (k := Sum.inr c) hdd (by omega), ?_⟩
        have l1 := length_putK kvs (Sum.inr c : Key) (.bl true)
        refine ⟨_, _, rfl, same_in sm hd, by rw [upd_ne hnp]; exact hp5, upd_same, by omega, fun c' v' h' => ?_⟩
        rw [valV_put] at h'
        by_cases ec : (Sum.inr c' : Key) = Sum.inr c
        · right
          have := Sum.inr.inj ec
          subst this
          rw [List.take_add_one, hc]
          exact List.mem_append_right _ (List.mem_singleton.mpr rfl)
        · rw [if_neg ec] at h'
          rcases hin c' v' h' with z | z
          · exact .inl z
          · right
            rw [List.take_add_one]
            exact List.mem_append_left _ z
      · rintro σ H6 ⟨kvs, v4, rfl, sm, hp5, hdd, hk, hin⟩
        rw [List.length_map] at hk hin
        refine ⟨kvs, _, _, _, rfl, sm, hdd, by omega, fun c v h => ?_⟩
        rcases hin c v h with ⟨j, m', hj, hm', hc⟩ | hc
        · exact ⟨j, m', by omega, hm', hc⟩
        · exact ⟨i, m, Nat.lt_succ_self _, hm, hcw c (List.mem_of_mem_take hc)⟩
    · rintro σ H1 ⟨kvs, v2, v3, v4, rfl, sm, hdd, hk, hin⟩
      exact q _ sm

/-! ### the check of an address -/
def spChkAddr (CH CC : Addr) : Sp := fun vs H Q _ => ∃ (a v : Addr) (ms : List Model) (xs : List Nat), vs = [.ref a, .ref v] ∧ CastleAt CH CC H a ms ∧ H v = some (.tup (xs.map nv)) ∧ Spot ms xs ∧ ∀ H', Same H H' → Q .non H'
theorem scChkAddr : FnScope ["castle", "value", "house", "component"] ["castle", "value"] (defScope sChkAddr) := ⟨rfl, rfl, rfl, by decide +kernel, rfl, by decide +kernel, by decide +kernel⟩
theorem ok_chkAddr {f : Addr} {fd : FuncData} (F : L2.Fun K "check_address" "check_address" sChkAddr f fd) (T : Txt K mg CH CC) (cI : Cal P w K mg base 1 "is_integer" spInt) : FnOk P w K mg base CX0 2 f fd ["castle", "value"] (spChkAddr CH CC) := by
  refine F.ok scChkAddr (fun vs H Q E h => ?_) (fun cdv A outer s H vs Q E hr h => ?_)
  · obtain ⟨a, v, ms, xs, rfl, _⟩ := h
    rfl
  · obtain ⟨a, v, ms, xs, rfl, CA, hv, S, q⟩ := h
    obtain ⟨dx, t, d, hs, h1, PA⟩ := CA.ex
    refine ⟨_, pss_cons (ps_if (PW.pt (pw_or (pt_not (pt_val (pe_callB call_isi (by rfl) T.zisi PyProof.Rows.boot_isinstance (pa_cons (pv 1) (pa_cons (pe_bltn (v := .ty "tuple") (by rfl) T.ztuple PyProof.Rows.boot_tuple rfl) pa_nil)))))
          (pw_or1 (pt_cmpR op_ne (pe_callB call_len_seq (by rfl) T.zlen boot_len (pa_cons (pv 1) pa_nil)) (pe_callB call_len_seq (by rfl) T.zlen boot_len (pa_cons (pe_fld (pv 0) rfl) pa_nil)) (nomark _))))) (pss_one ps_never) pss_nil)
      (pss_one (ps_for PassesOwn.never rfl (pi_zipA (by rfl) T.zzip (pa_cons (pe_fld (pv 0) rfl) (pa_cons (pv 1) pa_nil))) (pg_tup rfl (pgs_cons (pg_name (i := 2) scChkAddr.nd rfl (Or.inl rfl)) (pgs_cons (pg_name (i := 3) scChkAddr.nd rfl (Or.inl rfl)) pgs_nil)))
        (pss_one (ps_if (pt_not (pt_val (pe_c cI hr (by decide) (by rfl) (pa_cons (pv 3) (pa_cons pe_int (pa_cons (pe_op op_sub (pe_fld (pv 2) rfl) pe_int) pa_nil)))))) (pss_one ps_never) pss_nil)))), ?_⟩
    have hl1 : hs.length = ms.length := PA.d.length
    have hl2 : ms.length = xs.length := S.length
    refine ⟨_, rfl, _, _, _, _, true, rfl, .ty "tuple", .base (.tup hv), kit_ty (by decide +kernel), true, rfl, iteF ?_⟩
    refine ⟨_, rfl, v, _, rfl, .inr (SqT.of hv), _, rfl, a, CC, dx, _, _, rfl, h1, T.cC, T.nParts, cf_parts _ _, t, _, rfl, .inr (SqT.of PA.t), rfl, _, rfl, ?_⟩
    rw [List.length_map, List.length_map, show xs.length = hs.length by omega, decide_eq_true rfl]
    refine iteF ?_
    refine ⟨_, rfl, a, CC, dx, _, _, rfl, h1, T.cC, T.nParts, cf_parts _ _, _, rfl, t, v, _, _, rfl, .inr ⟨SqT.of PA.t, SqT.of hv, ?_⟩⟩
    refine for_zipT (K := K) (a := t) (b := v) (xs := hs.map V.ref) (ys := xs.map nv) (by rw [List.length_map, List.length_map]; omega) (fun i σ H' => ∃ v2 v3, σ = [some (.ref a), some (.ref v), v2, v3] ∧ Same H H') ⟨none, none, rfl, Same.refl _⟩ (fun i σ H' ⟨_, _, _, s'⟩ => ⟨SqT.of (s' _ _ PA.t), SqT.of (s' _ _ hv)⟩) ?_ ?_
    · rintro i y z T1 σ H1 hy hz ⟨v2, v3, rfl, sm⟩ hT1
      obtain ⟨b, hb, rfl⟩ := get_map hy
      obtain ⟨x, hx, rfl⟩ := get_map hz
      obtain ⟨m, hm, hh⟩ := paired_get PA.d hb
      obtain ⟨x', hx', hlt⟩ := paired_get S hm
      have ex : x' = x := by
        rw [hx] at hx'
        exact (Option.some.inj hx').symm
      subst ex
      have sm : Same H (upd H1 T1 (.tup [.ref b, nv x'])) := same_in sm (sm.free hT1)
      obtain ⟨dx', e, tt, kvs', ts, ds, h1', _⟩ := (hh.mono (Le.of_same sm)).ex
      refine ⟨T1, _, rfl, SqT.of upd_same, rfl, _, _, rfl, _, _, rfl, rfl, ?_⟩
      refine ⟨_, rfl, _, rfl, b, CH, dx', _, _, rfl, h1', T.cH, T.nHalls, hf_halls _ _ _, _, _, rfl, rfl, (x' : Int), 0, (m.N : Int) - 1, rfl, _, rfl, ?_⟩
      rw [decide_eq_true (show 0 ≤ (x' : Int) ∧ (x' : Int) ≤ (m.N : Int) - 1 by omega)]
      exact iteF ⟨_, _, rfl, sm⟩
    · rintro σ H1 ⟨v2, v3, rfl, sm⟩
      exact q _ sm

/-! ### Castle.__init__ -/
def spCastleInit (CH CC : Addr) : Sp := fun vs H Q _ => ∃ (x dx t : Addr) (hs : List Addr) (ms : List Model), vs = [.ref x, .ref t] ∧ H x = some (.ins CC dx []) ∧ PartsAt CH H t hs ms ∧ Fit ms ∧
  ∀ H', (∀ b o, H b = some o → b ≠ x → H' b = some o) → CastleAt CH CC H' x ms → Q .non H'
theorem scCastleInit : FnScope ["self", "parts", "number", "house", "colour"] ["self", "parts"] (defScope sCastleInit) := ⟨rfl, rfl, rfl, by decide +kernel, rfl, by decide +kernel, by decide +kernel⟩
theorem ok_castleInit {f : Addr} {fd : FuncData} (F : L2.Fun K "__init__" "Castle.__init__" sCastleInit f fd) (T : Txt K mg CH CC) (cP : Cal P w K mg base 2 "check_castle_parts" (spChkParts CH)) (mC : Met P w K mg base 1 CH "colours" (spColours CH)) :
    FnOk P w K mg base CX0 3 f fd ["self", "parts"] (spCastleInit CH CC) := by
  refine F.ok scCastleInit (fun vs H Q E h => ?_) (fun cdv A outer s H vs Q E hr h => ?_)
  · obtain ⟨x, dx, t, hs, ms, rfl, _⟩ := h
    rfl
  · obtain ⟨x, dx, t, hs, ms, rfl, hx, PA, F', q⟩ := h
    refine ⟨_, pss_cons (ps_expr (pe_c cP hr (by decide) (by rfl) (pa_cons (pv 1) pa_nil)))
      (pss_cons (ps_fld (pv 0) (pv 1) rfl)
      (pss_one (ps_fld (pv 0) (pe_dc2 (own := [("number", 2), ("house", 3), ("colour", 4)]) (vs1 := [4]) (g := gTup K 2 (gCons (gName 2) (gCons (gName 3) gNil))) (tt := tYes) (g1 := gName 4) (tt1 := tYes) rfl scCastleInit.nd (pi_enumT (by rfl) T.zenum (pa_cons (pv 1) pa_nil))
        (blkOk_by (N := ["self", "parts", "number", "house", "colour"]) (sc := defScope sCastleInit) (by decide +kernel)) (by decide)
        (fun _ _ _ _ _ => pg_tup rfl (pgs_cons (pg_name (i := 2) scCastleInit.nd rfl (Or.inl rfl)) (pgs_cons (pg_name (i := 3) scCastleInit.nd rfl (Or.inl rfl)) pgs_nil))) (fun _ _ _ _ _ => pts_nil)
        (wi1 := iTup K (tMeth CH "colours" (spColours CH) [] E0 (tVar 3) tNil)) (fun _ _ _ _ _ => pi_tup (pe_mt0 mC hr (by decide) (pv 3))) (fun _ _ _ _ _ => pg_name (i := 4) scCastleInit.nd rfl (Or.inl rfl)) (fun _ _ _ _ _ => pts_nil)
        (fun _ _ _ _ _ => pv 4) (fun _ _ _ _ _ => pv 2)) rfl))), ?_⟩
    have hsz : (4000 : Nat) < sizeLine := by decide
    refine ⟨_, rfl, t, hs, ms, rfl, PA, F', fun H1 s1 => ?_⟩
    refine ⟨_, rfl, _, rfl, x, CC, dx, [], rfl, s1 _ _ hx, T.cC, T.nParts, by show 0 < 1000; decide, ?_⟩
    have hml : hs.length = ms.length := PA.d.length
    have hl72 := F'.len
    have old : ∀ b o, H b = some o → b ≠ x → (upd H1 x (.ins CC dx (putF "parts" (.ref t) []))) b = some o := fun b o h n => by
      rw [upd_ne n]
      exact s1 _ _ h
    have hx2 : (upd H1 x (.ins CC dx (putF "parts" (.ref t) []))) x = some (.ins CC dx (putF "parts" (.ref t) [])) := upd_same
    revert old hx2
    dsimp only
    generalize upd H1 x (.ins CC dx (putF "parts" (.ref t) [])) = Hq
    intro old hx2
    have PA2 := PA.mono (Le.made hx old)
    refine ⟨_, rfl, t, _, rfl, SqT.of PA2.t, fun D hD => ?_⟩
    refine ⟨fun i m H' => m = hs.length - i ∧ i ≤ hs.length ∧ Same Hq H' ∧ ∃ kvs : List (Key × V), H' D = some (.dK kvs) ∧ kvs.length ≤ 16 * i, ⟨_, rfl, Nat.zero_le _, same_upd hD, [], upd_same, Nat.le_refl _⟩, ?_⟩
    rintro i m H3 ⟨rfl, hi, sm, kvs, hd, hk⟩
    by_cases hlt : i < hs.length
    · refine .inr ⟨⟨_, V.ref (hs[i]), SqT.of (sm _ _ PA2.t), by rw [List.getElem?_map, List.getElem?_eq_getElem hlt]; rfl⟩, fun H' => Same Hq H' ∧ ∃ kvs : List (Key × V), H' D = some (.dK kvs) ∧ kvs.length ≤ 16 * (i + 1),
        fun H' h => ⟨hs.length - (i + 1), by omega, rfl, hlt, h⟩, ?_⟩
      rintro y H4 ⟨T1, z, rfl, hT1, rfl, hy⟩
      obtain ⟨a, ha, rfl⟩ := get_map (hy _ (SqT.of (sm _ _ PA2.t)))
      obtain ⟨md, hm, hh⟩ := paired_get PA2.d ha
      have hmm : md ∈ ms := List.mem_of_getElem? hm
      have G := F'.good md hmm
      have sm : Same Hq (upd H3 T1 (.tup [.int (i : Nat), .ref a])) := same_in sm (sm.free hT1)
      have hd : (upd H3 T1 (.tup [.int (i : Nat), .ref a])) D = some (.dK kvs) := at_in hd hT1
      have hh := hh.mono (Le.of_same sm)
      refine ⟨T1, _, rfl, SqT.of upd_same, rfl, _, _, rfl, _, _, rfl, rfl, rfl, tyes ?_⟩
      obtain ⟨dx', e, tt, kvs', ts, ds, h1, _⟩ := id hh.ex
      refine ⟨_, rfl, a, dx', _, rfl, h1, hf_no _ _ _ (by decide +kernel) (by decide +kernel) (by decide +kernel), ?_⟩
      refine ⟨a, md.N, md.E, rfl, hh, fun h c y hy => ⟨G.g.ne _ _ _ hy, G.g.sym _ _ _ hy⟩, fun H5 p5 cs s5 n5 h5 hcs hl5 hnd5 => ?_⟩
      have hcl := nodup_sub cs md.ws hnd5 fun c hc => by
        obtain ⟨h, x, e⟩ := (hcs c).1 hc
        exact G.g.col _ _ _ e
      have hwl := F'.wl md hmm
      refine ⟨p5, rfl, ⟨_, SqT.of h5⟩, ?_⟩
      refine ⟨fun j k H' => k = cs.length - j ∧ j ≤ cs.length ∧ Same Hq H' ∧ H' p5 = some (.tup (cs.map V.str)) ∧ ∃ kvs : List (Key × V), H' D = some (.dK kvs) ∧ kvs.length ≤ 16 * i + j, ⟨_, rfl, Nat.zero_le _, sm.trans s5, h5, kvs, s5 _ _ hd, hk⟩, ?_⟩
      rintro j k H6 ⟨rfl, hj, sm6, hp6, kvs, hd6, hk6⟩
      by_cases hjl : j < cs.length
      · refine .inr ⟨⟨_, V.str (cs[j]), SqT.of hp6, by rw [List.getElem?_map, List.getElem?_eq_getElem hjl]; rfl⟩, fun H' => Same Hq H' ∧ H' p5 = some (.tup (cs.map V.str)) ∧ ∃ kvs : List (Key × V), H' D = some (.dK kvs) ∧ kvs.length ≤ 16 * i + (j + 1),
          fun H' h => ⟨cs.length - (j + 1), by omega, rfl, hjl, h⟩, ?_⟩
        rintro y H7 ⟨rfl, hy⟩
        obtain ⟨c, hc, rfl⟩ := get_map (hy _ (SqT.of hp6))
        have l1 := length_putK kvs (Sum.inr c : Key) (.int (i : Nat))
        refine ⟨rfl, tyes ⟨_, rfl, _, rfl, kvs, .inr c, rfl, hd6, by omega, same_in sm6 hD, ?_, _, upd_same, by omega⟩⟩
        rw [upd_ne (ne_of hp6 hd6 fun z => by cases z)]
        exact hp6
      · exact .inl ⟨⟨_, SqT.of hp6, by rw [List.length_map]; omega⟩, sm6, kvs, hd6, by omega⟩
    · refine .inl ⟨⟨_, SqT.of (sm _ _ PA2.t), by rw [List.length_map]; omega⟩, ?_⟩
      refine ⟨_, rfl, x, CC, dx, _, rfl, sm _ _ hx2, T.cC, T.nPartOf, by show 1 < 1000; decide, ?_⟩
      refine q _ (fun b o h n => ?_) ⟨dx, t, D, hs, upd_same, ?_⟩
      · rw [upd_ne n]
        exact sm _ _ (old b o h n)
      · refine PA.mono (Le.made hx fun b o h n => ?_)
        rw [upd_ne n]
        exact sm _ _ (old b o h n)

/-! ### origin -/
def spOrigin (CH CC : Addr) : Sp := fun vs H Q _ => ∃ (a : Addr) (ms : List Model), vs = [.ref a] ∧ CastleAt CH CC H a ms ∧ ms.length ≤ 72 ∧ ∀ H' p, Same H H' → H p = none → H' p = some (.tup ((List.replicate ms.length 0).map nv)) → Q (.ref p) H'
theorem scOrigin : FnScope ["self"] ["self"] (defScope sOrigin) := ⟨rfl, rfl, rfl, by decide +kernel, rfl, by decide +kernel, by decide +kernel⟩
theorem flat_rep (n : Nat) : (List.replicate n [V.int 0]).flatten = (List.replicate n 0).map nv := by
  induction n with
  | zero => rfl
  | succ n ih => rw [List.replicate_succ, List.flatten_cons, ih, List.replicate_succ]; rfl
theorem ok_origin {f : Addr} {fd : FuncData} (F : L2.Fun K "origin" "Castle.origin" sOrigin f fd) (T : Txt K mg CH CC) : FnOk P w K mg base CX0 1 f fd ["self"] (spOrigin CH CC) := by
  refine F.ok scOrigin (fun vs H Q E h => ?_) (fun cdv A outer s H vs Q E hr h => ?_)
  · obtain ⟨a, ms, rfl, _⟩ := h
    rfl
  · obtain ⟨a, ms, rfl, CA, hl, q⟩ := h
    obtain ⟨dx, t, d, hs, h1, PA⟩ := CA.ex
    refine ⟨_, pss_one (ps_ret (pe_op op_repZ (pe_tup (pa_cons pe_int pa_nil)) (pe_callB call_len_seq (by rfl) T.zlen boot_len (pa_cons (pe_fld (pv 0) rfl) pa_nil)))), ?_⟩
    have hml : hs.length = ms.length := PA.d.length
    refine ⟨by show 1 ≤ sizeLine; decide, fun z hz => ?_⟩
    have s1 : Same H (upd H z (.tup [.int 0])) := same_upd hz
    refine ⟨_, rfl, a, CC, dx, _, _, rfl, s1 _ _ h1, T.cC, T.nParts, cf_parts _ _, t, _, rfl, .inr (SqT.of (s1 _ _ PA.t)), z, _, [.int 0], rfl, rfl, SqT.of upd_same, by simp, by omega, by rw [List.length_map]; omega, by decide, fun e1 => ?_, fun _ p hp => ?_⟩
    · rw [List.length_map] at e1
      refine q _ z s1 hz ?_
      rw [upd_same, show ms.length = 1 by omega]
      rfl
    · refine q _ p (same_in s1 (s1.free hp)) (s1.free hp) ?_
      rw [upd_same, List.length_map, hml, flat_rep]
      rfl

/-! ### Castle.distance -/
theorem apart_get {ms : List Model} {xs ys : List Nat} (h1 : Spot ms xs) (h2 : Spot ms ys) : ∃ ds : List Nat, ds.length = ms.length ∧ (∀ (i : Nat) (m : Model) (x y : Nat), ms[i]? = some m → xs[i]? = some x → ys[i]? = some y → ds[i]? = some (Dm.dist m.E x y)) ∧ apart ms xs ys = ds.sum := by
  induction h1 generalizing ys with
  | nil => exact ⟨[], rfl, fun i m x y h => by simp at h, by cases h2; rfl⟩
  | @cons m x ms xs hm t ih =>
    cases h2 with
    | @cons _ y _ ys hy t2 =>
      obtain ⟨ds, l, g, e⟩ := ih t2
      refine ⟨Dm.dist m.E x y :: ds, by rw [List.length_cons, List.length_cons, l], fun i m' x' y' h1 h2 h3 => ?_, by show _ + apart ms xs ys = _; rw [e, List.sum_cons]⟩
      cases i with
      | zero =>
        cases h1
        cases h2
        cases h3
        rfl
      | succ i => exact g i m' x' y' h1 h2 h3
theorem sum_cast (l : List Nat) : (l.map fun x : Nat => (x : Int)).sum = ((l.sum : Nat) : Int) := by
  induction l with
  | nil => rfl
  | cons x l ih => rw [List.map_cons, List.sum_cons, List.sum_cons, ih]; omega
def spCDist (CH CC : Addr) : Sp := fun vs H Q _ => ∃ (a v u : Addr) (ms : List Model) (xs ys : List Nat), vs = [.ref a, .ref v, .ref u] ∧ CastleAt CH CC H a ms ∧ (∀ m ∈ ms, Good m.N m.ws m.E) ∧ ms.length ≤ 72 ∧ H v = some (.tup (xs.map nv)) ∧ Spot ms xs ∧ H u = some (.tup (ys.map nv)) ∧ Spot ms ys ∧
  ∀ H', Same H H' → Q (nv (apart ms xs ys)) H'
theorem scCDist : FnScope ["self", "start", "goal", "house", "one", "other"] ["self", "start", "goal"] (defScope sCDist) := ⟨rfl, rfl, rfl, by decide +kernel, rfl, by decide +kernel, by decide +kernel⟩
theorem ok_cdist {f : Addr} {fd : FuncData} (F : L2.Fun K "distance" "Castle.distance" sCDist f fd) (T : Txt K mg CH CC) (cA : Cal P w K mg base 2 "check_address" (spChkAddr CH CC)) (cD : Cal P w K mg base 4 "distance_distances" (spDist CH)) : FnOk P w K mg base CX0 5 f fd ["self", "start", "goal"] (spCDist CH CC) := by
  refine F.ok scCDist (fun vs H Q E h => ?_) (fun cdv A outer s H vs Q E hr h => ?_)
  · obtain ⟨a, v, u, ms, xs, ys, rfl, _⟩ := h
    rfl
  · obtain ⟨a, v, u, ms, xs, ys, rfl, CA, hG, hl, hv, Sx, hu', Sy, q⟩ := h
    obtain ⟨dx, t, d, hs, h1, PA⟩ := CA.ex
    refine ⟨_, pss_cons (ps_expr (pe_c cA hr (by decide) (by rfl) (pa_cons (pv 0) (pa_cons (pv 1) pa_nil)))) (pss_cons (ps_expr (pe_c cA hr (by decide) (by rfl) (pa_cons (pv 0) (pa_cons (pv 2) pa_nil))))
      (pss_one (ps_ret (pe_callB (cr_sum rfl) (by rfl) T.zsum PyProof.Rows.boot_sum (pa_cons
        (pe_lc (own := [("house", 3), ("one", 4), ("other", 5)]) (g := gTup K 3 (gCons (gName 3) (gCons (gName 4) (gCons (gName 5) gNil)))) (tt := tYes) rfl scCDist.nd (pi_zip3 (by rfl) T.zzip (pa_cons (pe_fld (pv 0) rfl) (pa_cons (pv 1) (pa_cons (pv 2) pa_nil))))
          (blkOk_by (N := ["self", "start", "goal", "house", "one", "other"]) (sc := defScope sCDist) (by decide +kernel))
          (fun _ _ _ _ _ => pg_tup rfl (pgs_cons (pg_name (i := 3) scCDist.nd rfl (Or.inl rfl)) (pgs_cons (pg_name (i := 4) scCDist.nd rfl (Or.inl rfl)) (pgs_cons (pg_name (i := 5) scCDist.nd rfl (Or.inl rfl)) pgs_nil)))) (fun _ _ _ _ _ => pts_nil)
          (fun _ _ _ _ _ => pe_c cD hr (by decide) (by rfl) (pa_cons (pv 3) (pa_cons (pv 4) (pa_cons (pv 5) pa_nil))))) pa_nil))))), ?_⟩
    have hml : hs.length = ms.length := PA.d.length
    have hxl : ms.length = xs.length := Sx.length
    have hyl : ms.length = ys.length := Sy.length
    have hsz : (4000 : Nat) < sizeLine := by decide
    obtain ⟨ds, hds, hget, hsum⟩ := apart_get Sx Sy
    refine ⟨_, rfl, _, rfl, a, v, ms, xs, rfl, CA, hv, Sx, fun H1 s1 => ?_⟩
    refine ⟨_, rfl, _, rfl, a, u, ms, ys, rfl, CA.mono (Le.of_same s1), s1 _ _ hu', Sy, fun H2 s2 => ?_⟩
    have s2 := s1.trans s2
    refine ⟨_, rfl, a, CC, dx, _, _, rfl, s2 _ _ h1, T.cC, T.nParts, cf_parts _ _, _, rfl, _, rfl, t, v, u, _, _, _, rfl, SqT.of (s2 _ _ PA.t), SqT.of (s2 _ _ hv), SqT.of (s2 _ _ hu'), fun D hD => ?_⟩
    have hD0 := s2.free hD
    refine lc_gen (J := ItZ3 K t v u) (n := ms.length) (fun i H' => Same H H' ∧ H' D = some (.lst ((ds.take i).map nv))) ⟨same_in s2 hD0, upd_same⟩ (fun i H' hi ⟨s', _⟩ => ?_) (fun H' ⟨s', _⟩ => ?_) ?_ ?_
    · exact ⟨_, _, _, V.ref (hs[i]), nv (xs[i]), nv (ys[i]), SqT.of (s' _ _ PA.t), SqT.of (s' _ _ hv), SqT.of (s' _ _ hu'), by rw [List.getElem?_map, List.getElem?_eq_getElem]; rfl, by rw [List.getElem?_map, List.getElem?_eq_getElem]; rfl, by rw [List.getElem?_map, List.getElem?_eq_getElem]; rfl⟩
    · exact ⟨_, _, _, SqT.of (s' _ _ PA.t), SqT.of (s' _ _ hv), SqT.of (s' _ _ hu'), by rw [List.length_map, List.length_map, List.length_map]; omega⟩
    · rintro i z H3 H4 hi ⟨sm, hd⟩ ⟨T1, b, x, y, rfl, hT1, rfl, hb, hx, hy⟩
      obtain ⟨b, hb1, rfl⟩ := get_map (hb _ (SqT.of (sm _ _ PA.t)))
      obtain ⟨x, hx1, rfl⟩ := get_map (hx _ (SqT.of (sm _ _ hv)))
      obtain ⟨y, hy1, rfl⟩ := get_map (hy _ (SqT.of (sm _ _ hu')))
      obtain ⟨m, hm, hh⟩ := paired_get PA.d hb1
      obtain ⟨x', hx', hxlt⟩ := paired_get Sx hm
      obtain ⟨y', hy', hylt⟩ := paired_get Sy hm
      rw [hx1] at hx'
      rw [hy1] at hy'
      cases hx'
      cases hy'
      have sm1 : Same H (upd H3 T1 (.tup [.ref b, nv x, nv y])) := same_in sm (sm.free hT1)
      have hd1 : (upd H3 T1 (.tup [.ref b, nv x, nv y])) D = some (.lst ((ds.take i).map nv)) := at_in hd hT1
      refine ⟨T1, _, rfl, SqT.of upd_same, rfl, _, _, rfl, _, _, rfl, _, _, rfl, rfl, rfl, tyes ?_⟩
      refine ⟨_, rfl, _, rfl, _, rfl, b, m.N, m.ws, m.E, x, y, rfl, hh.mono (Le.of_same sm1), hG m (List.mem_of_getElem? hm), hxlt, hylt, fun H5 s5 => ?_⟩
      refine ⟨_, s5 _ _ hd1, by rw [List.length_map, List.length_take]; omega, same_in (sm1.trans s5) hD0, ?_⟩
      rw [upd_same, List.take_add_one, hget i m x y hm hx1 hy1, List.map_append]
      rfl
    · rintro H3 ⟨sm, hd⟩
      rw [List.take_of_length_le (by omega)] at hd
      refine ⟨D, ds.map fun x : Nat => (x : Int), rfl, by rw [List.map_map]; exact SqL.of hd, ?_⟩
      rw [sum_cast, ← hsum]
      exact q _ sm
end
end DL

/-! the law's purse and draw; an address; is -/
namespace DL
open PySem L2 DI DO DS

def cutL {α : Type} (xs : List α) (lo hi : Option Int) : List α := (xs.drop (HT.sIx xs.length 0 lo)).take (HT.sIx xs.length xs.length hi - HT.sIx xs.length 0 lo)
theorem cutV_map {α : Type} (f : α → V) (xs : List α) (lo hi : Option Int) : cutV (xs.map f) lo hi = (cutL xs lo hi).map f := by
  unfold cutV cutL
  rw [List.length_map, List.map_take, List.map_drop]
theorem cutL_length {α : Type} (xs : List α) (lo hi : Option Int) : (cutL xs lo hi).length ≤ xs.length := by
  unfold cutL
  rw [List.length_take, List.length_drop]
  omega
theorem Kp.put {p : Addr} {H : Hp} {x y : Int} (h : PurseOk x y) : Kp p H (upd H p (.lst [.int x, .int y])) := ⟨fun b o e n => by
  rw [upd_ne n]
  exact e, x, y, upd_same, h⟩

section
variable {P : Program} {w : World} {K : PySem.W.Frag} {mg : Str → Option Value} {base : Heap} {CH CC : Addr}

/-! ### _law_purse -/
def spPurse (K : PySem.W.Frag) : Sp := fun vs H Q _ => ∃ (a : Addr) (ns : List Int) (k : Int), vs = [.ref a, .int k] ∧ SqL K H a (ns.map V.int) ∧ ns.length ≤ 1000 ∧ 0 ≤ k ∧ k ≤ 1000 ∧ ∀ H' p, Same H H' → H p = none → Purse H' p → Q (.ref p) H'
theorem scPurse : FnScope ["_law_script", "_law_k", "_law_cell"] ["_law_script", "_law_k"] (defScope sPurse) := ⟨rfl, rfl, rfl, by decide +kernel, rfl, by decide +kernel, by decide +kernel⟩
theorem ok_purse {f : Addr} {fd : FuncData} (F : L2.Fun K "_law_purse" "_law_purse" sPurse f fd) (T : Txt K mg CH CC) : FnOk P w K mg base CX0 1 f fd ["_law_script", "_law_k"] (spPurse K) := by
  refine F.ok scPurse (fun vs H Q E h => ?_) (fun cdv A outer s H vs Q E hr h => ?_)
  · obtain ⟨a, ns, k, rfl, _⟩ := h
    rfl
  · obtain ⟨a, ns, k, rfl, hs, hl, k0, k1, q⟩ := h
    refine ⟨_, pss_cons (ps_set (i := 2) scPurse.nd rfl (Or.inl rfl) (pe_ix ix_list (pe_op op_cat (pe_slice sl_list (pv 0) (po_some (pv 1)) (po_some (pe_op op_add (pv 1) pe_int))) (pe_lst (pa_cons pe_int pa_nil))) pe_int (fun _ _ => rfl)))
      (pss_cons (ps_if (PW.pt (pw_or (pt_cmpR op_ge (pv 2) (pe_op op_pow pe_int pe_int) (nomark _)) (pw_or1 (pt_cmpR op_lt (pv 2) pe_int (nomark _)))))
        (pss_one (ps_ret (pe_lst (pa_cons (pe_callB (call_max2 rfl) (by rfl) T.zmax PyProof.Rows.boot_max (pa_cons (pv 2) (pa_cons (pe_op op_sub (pe_un un_neg pe_int) (pv 2)) pa_nil))) (pa_cons pe_int pa_nil))))) pss_nil)
      (pss_one (ps_ret (pe_lst (pa_cons pe_int (pa_cons (pe_op op_add pe_int (pe_op op_mod (pe_op op_add (pe_op op_mul (pv 2) pe_int) (pe_op op_mul (pe_op op_mul (pe_op op_add (pv 1) pe_int) pe_int) (pe_op op_add (pv 1) pe_int))) pe_int)) pa_nil)))))), ?_⟩
    have hsz : (4000 : Nat) < sizeLine := by decide
    dsimp only
    refine seq_cut (t := tAsg _ _) (fun σ' H' => ∃ c, σ' = [some (.ref a), some (.int k), some (.int c)] ∧ Same H H') (fun NX hNX => ?_) ?_
    · refine ⟨_, rfl, _, rfl, _, rfl, _, rfl, _, _, rfl, rfl, _, rfl, a, _, rfl, hs, fun l1 h1 => ?_⟩
      refine ⟨by show 1 ≤ sizeLine; decide, fun l2 h2 => ?_⟩
      have hcl := cutL_length ns (some k) (some (k + 1))
      have e0 := cutV_map V.int ns (some k) (some (k + 1))
      refine ⟨l1, l2, _, _, rfl, rfl, at_in upd_same h2, upd_same, by rw [e0, List.length_map]; show _ + 1 ≤ _; omega, fun l3 h3 => ?_⟩
      have e1 : cutV (ns.map V.int) (some k) (some (k + 1)) ++ [V.int 0] = (cutL ns (some k) (some (k + 1)) ++ [0]).map V.int := by rw [e0, List.map_append]; rfl
      obtain ⟨c, hc⟩ : ∃ c, (cutL ns (some k) (some (k + 1)) ++ [0])[0]? = some c := ⟨_, List.getElem?_eq_getElem (by rw [List.length_append]; show 0 < _ + 1; omega)⟩
      refine ⟨l3, _, 0, V.int c, rfl, rfl, SqL.of upd_same, atI_nat (j := 0) (by rw [e1, List.getElem?_map, hc]; rfl), ?_⟩
      exact hNX _ _ ⟨c, rfl, (same_upd h1).trans ((same_upd h2).trans (same_upd h3))⟩
    rintro σ H1 ⟨c, rfl, s1⟩
    have fin : ∀ x y : Int, PurseOk x y → ∀ p, H1 p = none → Q (.ref p) (upd H1 p (.lst [.int x, .int y])) := fun x y h p hp => q _ p (same_in s1 (s1.free hp)) (s1.free hp) ⟨x, y, upd_same, h⟩
    refine ⟨_, rfl, _, _, rfl, rfl, ⟨by decide, by decide, by decide⟩, _, _, rfl, rfl, _, rfl, ?_⟩
    have e18 : (10 : Int) ^ (18 : Int).toNat = 1000000000000000000 := by decide
    refine ite2 (fun h => ?_) (fun h => ?_)
    · have h := of_decide_eq_true h
      rw [e18] at h
      refine iteT ?_
      refine ⟨_, rfl, _, rfl, _, rfl, _, _, rfl, rfl, _, _, rfl, by show 2 ≤ sizeLine; decide, fin _ _ ⟨?_, Int.le_refl _, by decide⟩⟩
      split <;> omega
    · have h : ¬ (1000000000000000000 : Int) ≤ c := fun z => h (decide_eq_true (by rw [e18]; exact z))
      refine ⟨_, rfl, _, _, rfl, rfl, _, rfl, ?_⟩
      refine ite2 (fun h2 => ?_) (fun h2 => ?_)
      · have h2 := of_decide_eq_true h2
        refine ⟨_, rfl, _, rfl, _, rfl, _, _, rfl, rfl, _, _, rfl, by show 2 ≤ sizeLine; decide, fin _ _ ⟨?_, Int.le_refl _, by decide⟩⟩
        split <;> omega
      · have h2 : ¬ c < 0 := fun z => h2 (decide_eq_true z)
        refine ⟨_, rfl, _, _, rfl, rfl, .inr ⟨by decide, by decide⟩, _, rfl, _, _, rfl, rfl, _, _, rfl, rfl, .inr ⟨by decide, by decide⟩, _, rfl, _, _, rfl, rfl, _, _, rfl, rfl, .inr ⟨by omega, by omega⟩, _, _, rfl, rfl, _, _, rfl, rfl, by show (0 : Int) < 2147483629; decide, _, _, rfl, rfl, by show 2 ≤ sizeLine; decide, fin _ _ ⟨Int.le_refl _, ?_, ?_⟩⟩
        · omega
        · omega

/-! ### _law_draw -/
def spDraw : Sp := fun vs H Q _ => ∃ (p : Addr) (m : Int), vs = [.ref p, .int m] ∧ Purse H p ∧ 0 < m ∧ m < 1000000 ∧ ∀ (r : Nat) (H' : Hp), (r : Int) < m → Kp p H H' → Q (nv r) H'
theorem scDraw : FnScope ["_law_purse_here", "_law_many", "_law_found"] ["_law_purse_here", "_law_many"] (defScope sDraw) := ⟨rfl, rfl, rfl, by decide +kernel, rfl, by decide +kernel, by decide +kernel⟩
theorem ok_draw {f : Addr} {fd : FuncData} (F : L2.Fun K "_law_draw" "_law_draw" sDraw f fd) : FnOk P w K mg base CX0 1 f fd ["_law_purse_here", "_law_many"] spDraw := by
  refine F.ok scDraw (fun vs H Q E h => ?_) (fun cdv A outer s H vs Q E hr h => ?_)
  · obtain ⟨p, m, rfl, _⟩ := h
    rfl
  · obtain ⟨p, m, rfl, ⟨x, y, hp, hx, hy0, hy1⟩, m0, m1, q⟩ := h
    refine ⟨_, pss_cons (ps_if (pt_cmpR op_eq (pe_ix ix_list (pv 0) pe_int (fun _ _ => rfl)) pe_int (nomark _))
        (pss_cons (ps_set (i := 2) scDraw.nd rfl (Or.inl rfl) (pe_op op_mod (pe_ix ix_list (pv 0) pe_int (fun _ _ => rfl)) (pv 1)))
        (pss_cons (ps_asg (pe_op op_fdiv (pe_ix ix_list (pv 0) pe_int (fun _ _ => rfl)) (pv 1)) (pg_sub (pv 0) pe_int set_list))
        (pss_one (ps_ret (pv 2))))) pss_nil)
      (pss_cons (ps_asg (pe_op op_add pe_int (pe_op op_mod (pe_op op_add (pe_op op_mul (pe_ix ix_list (pv 0) pe_int (fun _ _ => rfl)) pe_int) pe_int) pe_int)) (pg_sub (pv 0) pe_int set_list))
      (pss_one (ps_ret (pe_op op_mod (pe_op op_fdiv (pe_op op_mod (pe_op op_mul (pe_ix ix_list (pv 0) pe_int (fun _ _ => rfl)) pe_int) pe_int) pe_int) (pv 1))))), ?_⟩
    have fin : ∀ (z : Int) (H' : Hp), Kp p H H' → Q (.int (z % m)) H' := fun z H' k => by
      have h1 := Int.emod_nonneg z (show m ≠ 0 by omega)
      have h2 := Int.emod_lt_of_pos z m0
      have e : V.int (z % m) = nv (z % m).toNat := by
        show V.int (z % m) = V.int (((z % m).toNat : Nat) : Int)
        rw [Int.toNat_of_nonneg h1]
      rw [e]
      exact q _ _ (by omega) k
    refine ⟨_, rfl, p, _, 1, .int y, rfl, rfl, SqL.of hp, atI_nat (j := 1) rfl, rfl, _, rfl, ?_⟩
    refine ite2 (fun h => ?_) (fun h => ?_)
    · refine ⟨_, rfl, p, _, 0, .int x, rfl, rfl, SqL.of hp, atI_nat (j := 0) rfl, _, rfl, _, _, rfl, rfl, m0, ?_⟩
      refine ⟨_, rfl, p, _, 0, .int x, rfl, rfl, SqL.of hp, atI_nat (j := 0) rfl, _, rfl, _, _, rfl, rfl, ⟨m0, by omega⟩, ?_⟩
      refine ⟨_, rfl, p, _, 0, 0, rfl, rfl, hp, rfl, ?_⟩
      refine ⟨_, rfl, fin _ _ (Kp.put (x := x / m) (y := y) ⟨Int.ediv_nonneg hx (by omega), hy0, hy1⟩)⟩
    · refine ⟨_, rfl, p, _, 1, .int y, rfl, rfl, SqL.of hp, atI_nat (j := 1) rfl, _, _, rfl, rfl, .inr ⟨by decide, by decide⟩, _, _, rfl, rfl, _, _, rfl, rfl, by show (0 : Int) < 2147483587; decide, _, _, rfl, rfl, ?_⟩
      refine ⟨_, rfl, p, _, 1, 1, rfl, rfl, hp, rfl, ?_⟩
      have hk : Kp p H (upd H p (.lst [.int x, .int (1 + (y * 39373 + 7919) % 2147483587)])) := Kp.put ⟨hx, by omega, by omega⟩
      refine ⟨_, rfl, p, [.int x, .int (1 + (y * 39373 + 7919) % 2147483587)], 1, .int (1 + (y * 39373 + 7919) % 2147483587), rfl, rfl, SqL.of upd_same, atI_nat (j := 1) rfl, _, _, rfl, rfl, .inr ⟨by decide, by decide⟩, _, _, rfl, rfl, by show (0 : Int) < 2147483563; decide, _, _, rfl, rfl, ⟨by show (0 : Int) < 11; decide, by show (11 : Int) < 1073741824; decide⟩, _, rfl, _, _, rfl, rfl, m0, ?_⟩
      exact fin _ _ hk

/-! ### _law_is -/
def spIs : Sp := fun vs H Q _ => ∃ x y : Int, vs = [.int x, .int y] ∧ Q (.bl (decide (x = y))) H
theorem scIs : FnScope ["_law_told", "_law_due"] ["_law_told", "_law_due"] (defScope sIs) := ⟨rfl, rfl, rfl, by decide +kernel, rfl, by decide +kernel, by decide +kernel⟩
theorem ok_is {f : Addr} {fd : FuncData} (F : L2.Fun K "_law_is" "_law_is" sIs f fd) (T : Txt K mg CH CC) : FnOk P w K mg base CX0 1 f fd ["_law_told", "_law_due"] spIs := by
  refine F.ok scIs (fun vs H Q E h => ?_) (fun cdv A outer s H vs Q E hr h => ?_)
  · obtain ⟨x, y, rfl, _⟩ := h
    rfl
  · obtain ⟨x, y, rfl, q⟩ := h
    refine ⟨_, pss_one (ps_ret (pe_and (pe_callB call_isi (by rfl) T.zisi PyProof.Rows.boot_isinstance (pa_cons (pv 0) (pa_cons (pe_bltn (v := .ty "int") (by rfl) T.zint PyProof.Rows.boot_int rfl) pa_nil)))
      (pe_and (pe_not (pe_callB call_isi (by rfl) T.zisi PyProof.Rows.boot_isinstance (pa_cons (pv 0) (pa_cons (pe_bltn (v := .ty "bool") (by rfl) T.zbool PyProof.Rows.boot_bool rfl) pa_nil))))
        (pe_one (pe_cmpR op_eq (pv 0) (pv 1) (nomark _)))))), ?_⟩
    refine ⟨_, rfl, _, _, _, _, true, rfl, .ty "int", .base (.int x), kit_ty (by decide +kernel), true, rfl, iteT ?_⟩
    refine ⟨_, rfl, _, _, _, _, false, rfl, .ty "bool", .base (.int x), kit_ty (by decide +kernel), false, rfl, true, rfl, iteT ?_⟩
    refine ⟨_, rfl, _, rfl, rfl, ?_⟩
    have e : decide (V.int x = V.int y) = decide (x = y) := decide_eq_decide.mpr ⟨fun z => by cases z; rfl, fun z => by rw [z]⟩
    show Q (.bl (decide (V.int x = V.int y))) H
    rw [e]
    exact q
end
end DL

/-! the law's address, doors, house, castle -/
namespace DL
open PySem L2 DI DO DS

/-! ### models in the heap -/
structure ModelAt (H : Hp) (a : Addr) (m : Model) : Prop where
  ex : ∃ (e : Addr) (kvs : List (List Key × V)), H a = some (.tup [nv m.N, .ref e]) ∧ H e = some (.dT kvs) ∧ Rep kvs m.E
theorem ModelAt.mono {H H' : Hp} {a : Addr} {m : Model} (h : ModelAt H a m) (s : Le H H') : ModelAt H' a m := by
  obtain ⟨e, kvs, h1, h2, h3⟩ := h.ex
  exact ⟨e, kvs, s _ _ h1 trivial, s _ _ h2 trivial, h3⟩
structure ModelsAt (H : Hp) (l : Addr) (as : List Addr) (ms : List Model) : Prop where
  l : H l = some (.lst (as.map V.ref))
  d : Paired (ModelAt H) as ms
theorem ModelsAt.same {H H' : Hp} {l : Addr} {as : List Addr} {ms : List Model} (h : ModelsAt H l as ms) (s : Same H H') : ModelsAt H' l as ms := ⟨s _ _ h.l, Paired.mapP h.d fun _ _ x => x.mono (Le.of_same s)⟩
theorem refs_ne (as : List Addr) (x y : Int) : HO.lst (as.map V.ref) ≠ .lst [.int x, .int y] := fun z => by
  injection z with z
  cases as with
  | nil => cases z
  | cons a r => injection z with z; cases z
theorem strs_ne (as : List Str) (x y : Int) : HO.lst (as.map V.str) ≠ .lst [.int x, .int y] := fun z => by
  injection z with z
  cases as with
  | nil => cases z
  | cons a r => injection z with z; cases z
theorem ModelsAt.kp {H H' : Hp} {p l : Addr} {as : List Addr} {ms : List Model} (h : ModelsAt H l as ms) (hp : Purse H p) (k : Kp p H H') : ModelsAt H' l as ms := ⟨k.at hp h.l (refs_ne _), Paired.mapP h.d fun _ _ x => x.mono (Le.of_kp k hp)⟩
theorem Kp.up {p D : Addr} {H H' : Hp} {o : HO} (k : Kp p H H') (hp : Purse H p) (n : H D = none) : Kp p H (upd H' D o) := by
  have hn : p ≠ D := fun z => by
    obtain ⟨x, y, e, _⟩ := hp
    rw [← z, e] at n
    cases n
  refine ⟨fun b u e nb => ?_, ?_⟩
  · rw [upd_ne (ne_of_none e n)]
    exact k.keep b u e nb
  · obtain ⟨x, y, e, r⟩ := k.pur
    exact ⟨x, y, by rw [upd_ne hn]; exact e, r⟩
theorem Purse.dne {p D : Addr} {H : Hp} (hp : Purse H p) (n : H D = none) : D ≠ p := fun z => by
  obtain ⟨x, y, e, _⟩ := hp
  rw [z, e] at n
  cases n
theorem prod_len {α β γ : Type} (f : α → β → γ) (l : List α) (m : List β) : (l.flatMap fun a => m.map (f a)).length = l.length * m.length := by
  induction l with
  | nil => simp
  | cons a l ih => rw [List.flatMap_cons, List.length_append, List.length_map, ih, List.length_cons, Nat.succ_mul]; omega
/-- so many ends at the most -/
theorem rep_len {kvs : List (List Key × V)} {E : Ends} {N : Nat} {ws : List Str} (R : Rep kvs E) (G : Dm.House N (· ∈ ws) E) : kvs.length ≤ N * ws.length := by
  have h := nodup_sub (kvs.map (·.1)) ((List.range N).flatMap fun h => ws.map fun c => EKey h c) R.nd fun k hk => by
    obtain ⟨q, hq, rfl⟩ := List.mem_map.mp hk
    obtain ⟨h, c, x, rfl⟩ := R.ent q hq
    have hE := R.at hq
    exact List.mem_flatMap.mpr ⟨h, List.mem_range.mpr (G.lt _ _ _ hE).1, List.mem_map.mpr ⟨c, G.col _ _ _ hE, rfl⟩⟩
  rw [List.length_map, prod_len, List.length_range] at h
  exact h

section
variable {P : Program} {w : World} {K : PySem.W.Frag} {mg : Str → Option Value} {base : Heap} {CH CC : Addr}

/-! ### _law_address -/
def spAddr : Sp := fun vs H Q _ => ∃ (p l : Addr) (as : List Addr) (ms : List Model), vs = [.ref p, .ref l] ∧ Purse H p ∧ ModelsAt H l as ms ∧ (∀ m ∈ ms, 2 ≤ m.N ∧ m.N ≤ 64) ∧ ms.length ≤ 72 ∧
  ∀ H' t xs, Kp p H H' → H t = none → H' t = some (.tup (xs.map nv)) → Spot ms xs → Q (.ref t) H'
theorem scAddr : FnScope ["_law_purse_here", "_law_models", "_law_model"] ["_law_purse_here", "_law_models"] (defScope sAddr) := ⟨rfl, rfl, rfl, by decide +kernel, rfl, by decide +kernel, by decide +kernel⟩
theorem ok_addr {f : Addr} {fd : FuncData} (F : L2.Fun K "_law_address" "_law_address" sAddr f fd) (T : Txt K mg CH CC) (cD : Cal P w K mg base 1 "_law_draw" spDraw) : FnOk P w K mg base CX0 2 f fd ["_law_purse_here", "_law_models"] spAddr := by
  refine F.ok scAddr (fun vs H Q E h => ?_) (fun cdv A outer s H vs Q E hr h => ?_)
  · obtain ⟨p, l, as, ms, rfl, _⟩ := h
    rfl
  · obtain ⟨p, l, as, ms, rfl, hp, M, hN, hl, q⟩ := h
    refine ⟨_, pss_one (ps_ret (pe_callTy call_tuple_of (by rfl) T.ztuple PyProof.Rows.boot_tuple (pa_cons
      (pe_lc (own := [("_law_model", 2)]) (g := gName 2) (tt := tYes) rfl scAddr.nd (pi_list (pv 1)) (blkOk_by (N := ["_law_purse_here", "_law_models", "_law_model"]) (sc := defScope sAddr) (by decide +kernel)) (fun _ _ _ _ _ => pg_name (i := 2) scAddr.nd rfl (Or.inl rfl)) (fun _ _ _ _ _ => pts_nil)
        (fun _ _ _ _ _ => pe_c cD hr (by decide) (by rfl) (pa_cons (pv 0) (pa_cons (pe_ix (r := rIxT K) ix_tup (pv 2) pe_int (fun _ _ => rfl)) pa_nil)))) pa_nil))), ?_⟩
    have hsz : (4000 : Nat) < sizeLine := by decide
    have hlen : as.length = ms.length := M.d.length
    refine ⟨_, rfl, l, rfl, ⟨_, SqL.of M.l⟩, fun D hD => ?_⟩
    have hDp := hp.dne hD
    refine lc_list (K := K) (a := l) (xs := as.map V.ref) (fun i H' => Kp p H H' ∧ ∃ xs : List Nat, H' D = some (.lst (xs.map nv)) ∧ Paired (fun (m : Model) (x : Nat) => x < m.N) (ms.take i) xs) ⟨(Kp.refl hp).up hp hD, [], upd_same, .nil⟩ (fun i H' _ ⟨k, _⟩ => SqL.of (M.kp hp k).l) ?_ ?_
    · rintro i y H1 hi ⟨k, xs, hd, hx⟩
      obtain ⟨a, ha, rfl⟩ := get_map hi
      obtain ⟨m, hm, hma⟩ := paired_get M.d ha
      obtain ⟨e, kvs, h1, h2, R⟩ := (hma.mono (Le.of_kp k hp)).ex
      have hmN := hN m (List.mem_of_getElem? hm)
      have hi2 := (List.getElem?_eq_some_iff.mp hm).1
      have hxl := hx.length
      rw [List.length_take] at hxl
      refine ⟨rfl, tyes ?_⟩
      refine ⟨_, rfl, _, rfl, a, _, 0, _, rfl, rfl, SqT.of h1, atI_nat (j := 0) rfl, p, (m.N : Int), rfl, k.pur, by omega, by omega, fun r H2 hr2 k2 => ?_⟩
      refine ⟨_, k2.keep _ _ hd hDp, by rw [List.length_map]; omega, (k.trans k2).up hp hD, xs ++ [r], by rw [upd_same, map_snoc], ?_⟩
      rw [List.take_add_one, hm]
      exact hx.snoc (by omega)
    · rintro H1 ⟨k, xs, hd, hx⟩
      rw [List.take_of_length_le (by rw [List.length_map]; omega)] at hx
      refine ⟨D, _, rfl, .inl ⟨SqL.of hd, fun t ht => ?_⟩⟩
      exact q _ t xs (k.up hp (k.free ht)) (k.free ht) upd_same hx

/-! ### _law_doors -/
def spDoors : Sp := fun vs H Q _ => ∃ (e : Addr) (kvs : List (List Key × V)) (E : Ends) (N : Nat) (ws : List Str), vs = [.ref e] ∧ H e = some (.dT kvs) ∧ Rep kvs E ∧ Dm.House N (· ∈ ws) E ∧ kvs.length ≤ 1000 ∧
  ∀ H' t ts ds, Same H H' → H t = none → H' t = some (.tup (ts.map V.ref)) → Paired (IsDoor H') ts ds → DoorsOf E ds → ds.length ≤ 1000 → Q (.ref t) H'
theorem scDoors : FnScope ["_law_ends", "_law_hall", "_law_word"] ["_law_ends"] (defScope sDoors) := ⟨rfl, rfl, rfl, by decide +kernel, rfl, by decide +kernel, by decide +kernel⟩
theorem isDoor_mono {H H' : Hp} (s : Same H H') {ts : List Addr} {ds : List Door} (h : Paired (IsDoor H) ts ds) : Paired (IsDoor H') ts ds := Paired.mapP h fun t _ e => s t _ e
theorem ok_doors {f : Addr} {fd : FuncData} (F : L2.Fun K "_law_doors" "_law_doors" sDoors f fd) (T : Txt K mg CH CC) : FnOk P w K mg base CX0 1 f fd ["_law_ends"] spDoors := by
  refine F.ok scDoors (fun vs H Q E h => ?_) (fun cdv A outer s H vs Q E hr h => ?_)
  · obtain ⟨e, kvs, E, N, ws, rfl, _⟩ := h
    rfl
  · obtain ⟨e, kvs, E, N, ws, rfl, he, R, G, hl, q⟩ := h
    have hu := hu_of hr
    refine ⟨_, pss_one (ps_ret (pe_callTy call_tuple_of (by rfl) T.ztuple PyProof.Rows.boot_tuple (pa_cons (pe_callB (cr_sortD (u8 hr)) (by rfl) T.zsorted PyProof.Rows.boot_sorted (pa_cons
      (pe_lock (pe_lc (own := [("_law_hall", 1), ("_law_word", 2)]) (g := gTup K 2 (gCons (gName 1) (gCons (gName 2) gNil))) rfl scDoors.nd (pi_keys (pv 0)) (blkOk_by (N := ["_law_ends", "_law_hall", "_law_word"]) (sc := defScope sDoors) (by decide +kernel))
        (fun _ _ _ _ _ => pg_tup rfl (pgs_cons (pg_name (i := 1) scDoors.nd rfl (Or.inl rfl)) (pgs_cons (pg_name (i := 2) scDoors.nd rfl (Or.inl rfl)) pgs_nil)))
        (fun _ _ _ _ _ => pts_one (pt_cmpR op_lt (pv 1) (pe_dget hu (pv 0) (pe_tup (pa_cons (pv 1) (pa_cons (pv 2) pa_nil))) (fun _ _ => rfl)) (nomark _)))
        (fun _ _ _ _ _ => pe_tup (pa_cons (pv 1) (pa_cons (pe_dget hu (pv 0) (pe_tup (pa_cons (pv 1) (pa_cons (pv 2) pa_nil))) (fun _ _ => rfl)) (pa_cons (pv 2) pa_nil)))))) pa_nil)) pa_nil))), ?_⟩
    have hsz : (4000 : Nat) < sizeLine := by decide
    have hsz2 : 2 ≤ sizeLine := by decide
    have hsz3 : 3 ≤ sizeLine := by decide
    refine ⟨e, .dT kvs, he, trivial, fun od => ?_⟩
    refine ⟨_, rfl, e, od, rfl, .inr ⟨kvs, upd_same, fun D hD => ?_⟩⟩
    have hfrz : (upd H e (.frz od (.dT kvs))) e = some (.frz od (.dT kvs)) := upd_same
    have hback : ∀ H' : Hp, Same (upd H e (.frz od (.dT kvs))) H' → Same H (upd H' e (.dT kvs)) := fun H' sm b o h => by
      by_cases hb : b = e
      · rw [hb, he] at h
        rw [hb, upd_same]
        exact h
      · rw [upd_ne hb]
        refine sm b o ?_
        rw [upd_ne hb]
        exact h
    have hDe : D ≠ e := fun z => by rw [z, upd_same] at hD; cases hD
    generalize upd H e (.frz od (.dT kvs)) = HL at hD hfrz hback
    refine lc_gen (J := Itkt e od kvs) (n := kvs.length) (fun i H' => Same HL H' ∧ ∃ (ts : List Addr) (ds : List Door), H' D = some (.lst (ts.map V.ref)) ∧ Paired (IsDoor H') ts ds ∧ ds.length ≤ i ∧ ds.Nodup ∧
      ∀ d, d ∈ ds ↔ ∃ (a b : Nat) (c : Str), d = ((a : Int), (b : Int), c) ∧ a < b ∧ (EKey a c, nv b) ∈ kvs.take i) ⟨same_upd hD, [], [], upd_same, .nil, Nat.le_refl _, List.nodup_nil, fun d => by simp⟩
      (fun i H' hi ⟨s', _⟩ => ⟨s' _ _ hfrz, hi⟩) (fun H' ⟨s', _⟩ => ⟨s' _ _ hfrz, Nat.le_refl _⟩) ?_ ?_
    · rintro i y H1 H2 hi ⟨sm, ts, ds, hd, hpd, hdl, hnd, hmem⟩ ⟨rfl, k, v, kq, hk, rfl, hkq⟩
      obtain ⟨a, c, b, e1, hE⟩ := R.get hk
      have e1' : k = EKey a c := congrArg (·.1) e1
      have e2' : v = nv b := congrArg (·.2) e1
      subst e1' e2'
      have key : ∀ (H3 : Hp) (z : Addr), Same HL H3 → H3 z = none → DGet (upd H3 z (.tup [nv a, .str c])) e (.ref z) (some (nv b)) := fun H3 z s3 hz => by
        have g : DGet (upd H3 z (.tup [nv a, .str c])) e (.ref z) (valV kvs (EKey a c)) := .inr ⟨kvs, EKey a c, z, .inr ⟨od, at_in (s3 _ _ hfrz) hz⟩, rfl, upd_same, rfl⟩
        rw [R.val, hE] at g
        exact g
      refine ⟨kq, _, rfl, SqT.of hkq, rfl, _, _, rfl, _, _, rfl, rfl, rfl, ?_⟩
      refine ⟨_, rfl, _, rfl, _, rfl, _, rfl, hsz2, fun z hz => ⟨e, nv b, rfl, key _ z sm hz, _, _, rfl, rfl, _, rfl, ?_⟩⟩
      have hz0 : HL z = none := sm.free hz
      have sm1 : Same HL (upd H2 z (.tup [nv a, .str c])) := same_in sm hz0
      have hd1 : (upd H2 z (.tup [nv a, .str c])) D = some (.lst (ts.map V.ref)) := at_in hd hz
      have hpd1 : Paired (IsDoor (upd H2 z (.tup [nv a, .str c]))) ts ds := isDoor_mono (same_upd hz) hpd
      have tk : kvs.take (i + 1) = kvs.take i ++ [(EKey a c, nv b)] := by rw [List.take_add_one, hk]; rfl
      refine ite2 (fun hlt => ?_) (fun hge => ?_)
      · have hlt : a < b := by have := of_decide_eq_true hlt; omega
        refine ⟨_, rfl, _, rfl, _, rfl, _, rfl, hsz2, fun z2 hz2 => ⟨e, nv b, rfl, key _ z2 sm1 hz2, _, rfl, hsz3, fun z3 hz3 => ?_⟩⟩
        have sm2 : Same HL (upd (upd H2 z (.tup [nv a, .str c])) z2 (.tup [nv a, .str c])) := same_in sm1 (sm1.free hz2)
        have hd2 : (upd (upd H2 z (.tup [nv a, .str c])) z2 (.tup [nv a, .str c])) D = some (.lst (ts.map V.ref)) := at_in hd1 hz2
        have hpd2 := isDoor_mono (same_upd (o := .tup [nv a, .str c]) hz2) hpd1
        have hd3 : (upd (upd (upd H2 z (.tup [nv a, .str c])) z2 (.tup [nv a, .str c])) z3 (.tup [nv a, nv b, .str c])) D = some (.lst (ts.map V.ref)) := at_in hd2 hz3
        have hpd3 := isDoor_mono (same_upd (o := .tup [nv a, nv b, .str c]) hz3) hpd2
        have hD3 : ∀ {t : Addr} {o : HO}, (upd (upd (upd H2 z (.tup [nv a, .str c])) z2 (.tup [nv a, .str c])) z3 (.tup [nv a, nv b, .str c])) t = some o → (∀ l, o ≠ .lst l) → t ≠ D := fun h n => ne_of h hd3 (n _)
        have hlen : ts.length = ds.length := hpd.length
        refine ⟨ts.map V.ref, hd3, by rw [List.length_map]; omega, same_in (same_in sm2 (sm2.free hz3)) hD, ts ++ [z3], ds ++ [((a : Int), (b : Int), c)], by rw [upd_same, map_snoc], ?_, by rw [List.length_append, List.length_singleton]; omega, ?_, fun d => ?_⟩
        · refine (Paired.mapP hpd3 fun t d h => ?_).snoc ?_
          · show _ = _
            rw [upd_ne (hD3 h fun _ z => by cases z)]
            exact h
          · show _ = _
            rw [upd_ne (hD3 upd_same fun _ z => by cases z)]
            exact upd_same
        · refine nd_snoc hnd fun z => ?_
          obtain ⟨a', b', c', e', lt', m'⟩ := (hmem _).1 z
          have e1 : (a : Int) = a' := congrArg (·.1) e'
          have e2 : (b : Int) = b' := congrArg (·.2.1) e'
          have e3 : c = c' := congrArg (·.2.2) e'
          have e1 : a = a' := by omega
          have e2 : b = b' := by omega
          subst e1 e2 e3
          obtain ⟨j, hj⟩ := List.mem_iff_getElem?.mp m'
          have hji : j < i := by
            have := (List.getElem?_eq_some_iff.mp hj).1
            rw [List.length_take] at this
            omega
          rw [List.getElem?_take, if_pos hji] at hj
          obtain ⟨l1, q1⟩ := List.getElem?_eq_some_iff.mp hj
          obtain ⟨l2, q2⟩ := List.getElem?_eq_some_iff.mp hk
          have := (List.pairwise_iff_getElem.mp (List.pairwise_map.mp R.nd)) j i l1 l2 hji
          rw [q1, q2] at this
          exact this rfl
        · rw [List.mem_append, hmem, tk]
          constructor
          · rintro (⟨a', b', c', e', lt', m'⟩ | z)
            · exact ⟨a', b', c', e', lt', List.mem_append_left _ m'⟩
            · exact ⟨a, b, c, List.mem_singleton.mp z, hlt, List.mem_append_right _ (List.mem_singleton.mpr rfl)⟩
          · rintro ⟨a', b', c', rfl, lt', m'⟩
            rcases List.mem_append.mp m' with z | z
            · exact .inl ⟨a', b', c', rfl, lt', z⟩
            · right
              have z := List.mem_singleton.mp z
              have z1 := ekey_inj (congrArg (·.1) z)
              have z2 : nv b' = nv b := congrArg (·.2) z
              injection z2 with z2
              have z2 : b' = b := by omega
              obtain ⟨z3, z4⟩ := z1
              subst z2 z3 z4
              exact List.mem_singleton.mpr rfl
      · have hge : ¬ a < b := fun z => hge (decide_eq_true (by omega))
        refine ⟨sm1, ts, ds, hd1, hpd1, by omega, hnd, fun d => ?_⟩
        rw [hmem, tk]
        constructor
        · rintro ⟨a', b', c', e', lt', m'⟩
          exact ⟨a', b', c', e', lt', List.mem_append_left _ m'⟩
        · rintro ⟨a', b', c', rfl, lt', m'⟩
          rcases List.mem_append.mp m' with z | z
          · exact ⟨a', b', c', rfl, lt', z⟩
          · have z := List.mem_singleton.mp z
            have z1 := ekey_inj (congrArg (·.1) z)
            have z2 : nv b' = nv b := congrArg (·.2) z
            injection z2 with z2
            omega
    · rintro H1 ⟨sm, ts, ds, hd, hpd, hdl, hnd, hmem⟩
      rw [List.take_length] at hmem
      have hs := hback H1 sm
      have hpdu : Paired (IsDoor (upd H1 e (.dT kvs))) ts ds := Paired.mapP hpd fun t d h => by
        show _ = _
        have : t ≠ e := ne_of h (sm _ _ hfrz) fun z => by cases z
        rw [upd_ne this]
        exact h
      refine ⟨sm _ _ hfrz, D, ts, ds, rfl, SqL.of (by rw [upd_ne hDe]; exact hd), hpdu, fun ts' ds' p hp' hperm hpw hpn => ?_⟩
      refine ⟨p, _, rfl, .inl ⟨SqL.of upd_same, fun t ht => ?_⟩⟩
      have hpn0 := hs.free hpn
      have s2 : Same H (upd (upd H1 e (.dT kvs)) p (.lst (ts'.map V.ref))) := same_in hs hpn0
      refine q _ t ts' ds' (same_in s2 (s2.free ht)) (s2.free ht) upd_same (isDoor_mono ((same_upd hpn).trans (same_upd ht)) hp') ⟨fun d => ?_, ?_⟩ (by rw [hperm.length_eq]; omega)
      · rw [hperm.mem_iff, hmem]
        constructor
        · rintro ⟨a, b, c, e', lt, m⟩
          exact ⟨a, b, c, e', lt, R.at m⟩
        · rintro ⟨a, b, c, e', lt, hE⟩
          exact ⟨a, b, c, e', lt, R.mem hE⟩
      · have hn2 : ds'.Nodup := hperm.symm.nodup hnd
        refine (hpw.and hn2).imp fun {x y} h => ?_
        exact dlt_or h.2 h.1

/-! ### _law_house -/
def spHouse (CH : Addr) : Sp := fun vs H Q _ => ∃ (a : Addr) (m : Model), vs = [.ref a] ∧ ModelAt H a m ∧ Good m.N m.ws m.E ∧ (∀ c ∈ m.ws, Colour c) ∧ m.ws.length ≤ 15 ∧
  ∀ H' x, Same H H' → H x = none → HouseAt CH H' x m.N m.E → Q (.ref x) H'
theorem scHouse : FnScope ["_law_model"] ["_law_model"] (defScope sHouse) := ⟨rfl, rfl, rfl, by decide +kernel, rfl, by decide +kernel, by decide +kernel⟩
theorem rep_len1000 {kvs : List (List Key × V)} {E : Ends} {N : Nat} {ws : List Str} (R : Rep kvs E) (G : Good N ws E) (hl : ws.length ≤ 15) : kvs.length ≤ 1000 := by
  have := rep_len R G.g
  have := Nat.mul_le_mul G.le hl
  omega
theorem ok_house {f : Addr} {fd : FuncData} (F : L2.Fun K "_law_house" "_law_house" sHouse f fd) (kH : Mak P w K mg base 4 "House" CH (spHouseInit CH)) (cD : Cal P w K mg base 1 "_law_doors" spDoors) : FnOk P w K mg base CX0 6 f fd ["_law_model"] (spHouse CH) := by
  refine F.ok scHouse (fun vs H Q E h => ?_) (fun cdv A outer s H vs Q E hr h => ?_)
  · obtain ⟨a, m, rfl, _⟩ := h
    rfl
  · obtain ⟨a, m, rfl, M, G, hc, hl, q⟩ := h
    refine ⟨_, pss_one (ps_ret (pe_mk kH hr (by decide) (by rfl) (pa_cons (pe_ix ix_tup (pv 0) pe_int (fun _ _ => rfl)) (pa_cons (pe_c cD hr (by decide) (by rfl) (pa_cons (pe_ix ix_tup (pv 0) pe_int (fun _ _ => rfl)) pa_nil)) pa_nil)))), ?_⟩
    obtain ⟨e, kvs, h1, h2, R⟩ := M.ex
    refine ⟨_, rfl, a, _, 0, _, rfl, rfl, SqT.of h1, atI_nat (j := 0) rfl, ?_⟩
    refine ⟨_, rfl, a, _, 1, _, rfl, rfl, SqT.of h1, atI_nat (j := 1) rfl, ?_⟩
    refine ⟨e, kvs, m.E, m.N, m.ws, rfl, h2, R, G.g, rep_len1000 R G hl, fun H1 t ts ds s1 n1 ht hpd hD hdl => ?_⟩
    intro x dx nx ndx nex
    have s2 : Same H1 (upd (upd H1 dx (.own x)) x (.ins CH dx [])) := fun b o e => by
      rw [upd_ne (ne_of_none e nx), upd_ne (ne_of_none e ndx)]
      exact e
    refine ⟨x, dx, t, m.N, ts, ds, m.ws, m.E, rfl, upd_same, ⟨s2 _ _ ht, isDoor_mono s2 hpd, hD, hdl, G, hc, by omega⟩, fun H2 k HA => ⟨rfl, ?_⟩⟩
    refine q H2 x (fun b o h => ?_) (s1.free nx) HA
    have hb := s1 _ _ h
    exact k b o (s2 _ _ hb) (ne_of_none hb nx)

/-! ### _law_castle -/
def spCastle (CH CC : Addr) : Sp := fun vs H Q _ => ∃ (l : Addr) (as : List Addr) (ms : List Model), vs = [.ref l] ∧ ModelsAt H l as ms ∧ Fit ms ∧
  ∀ H' x, Same H H' → H x = none → CastleAt CH CC H' x ms → Q (.ref x) H'
theorem scCastle : FnScope ["_law_models", "_law_model"] ["_law_models"] (defScope sCastle) := ⟨rfl, rfl, rfl, by decide +kernel, rfl, by decide +kernel, by decide +kernel⟩
theorem ok_castle {f : Addr} {fd : FuncData} (F : L2.Fun K "_law_castle" "_law_castle" sCastle f fd) (T : Txt K mg CH CC) (kC : Mak P w K mg base 3 "Castle" CC (spCastleInit CH CC)) (cH : Cal P w K mg base 6 "_law_house" (spHouse CH)) : FnOk P w K mg base CX0 7 f fd ["_law_models"] (spCastle CH CC) := by
  refine F.ok scCastle (fun vs H Q E h => ?_) (fun cdv A outer s H vs Q E hr h => ?_)
  · obtain ⟨l, as, ms, rfl, _⟩ := h
    rfl
  · obtain ⟨l, as, ms, rfl, M, F', q⟩ := h
    refine ⟨_, pss_one (ps_ret (pe_mk kC hr (by decide) (by rfl) (pa_cons (pe_callTy call_tuple_of (by rfl) T.ztuple PyProof.Rows.boot_tuple (pa_cons
      (pe_lc (own := [("_law_model", 1)]) (g := gName 1) (tt := tYes) rfl scCastle.nd (pi_list (pv 0)) (blkOk_by (N := ["_law_models", "_law_model"]) (sc := defScope sCastle) (by decide +kernel)) (fun _ _ _ _ _ => pg_name (i := 1) scCastle.nd rfl (Or.inl rfl)) (fun _ _ _ _ _ => pts_nil)
        (fun _ _ _ _ _ => pe_c cH hr (by decide) (by rfl) (pa_cons (pv 1) pa_nil))) pa_nil)) pa_nil))), ?_⟩
    have hsz : (4000 : Nat) < sizeLine := by decide
    have hlen : as.length = ms.length := M.d.length
    have hl72 := F'.len
    refine ⟨_, rfl, l, rfl, ⟨_, SqL.of M.l⟩, fun D hD => ?_⟩
    refine lc_list (K := K) (a := l) (xs := as.map V.ref) (fun i H' => Same H H' ∧ ∃ hs : List Addr, H' D = some (.lst (hs.map V.ref)) ∧ Paired (fun a (m : Model) => HouseAt CH H' a m.N m.E) hs (ms.take i)) ⟨same_upd hD, [], upd_same, .nil⟩ (fun i H' _ ⟨k, _⟩ => SqL.of (M.same k).l) ?_ ?_
    · rintro i y H1 hi ⟨sm, hs, hd, hx⟩
      obtain ⟨a, ha, rfl⟩ := get_map hi
      obtain ⟨m, hm, hma⟩ := paired_get M.d ha
      have hmm := List.mem_of_getElem? hm
      have hxl := hx.length
      rw [List.length_take] at hxl
      refine ⟨rfl, tyes ?_⟩
      refine ⟨_, rfl, a, m, rfl, hma.mono (Le.of_same sm), F'.good m hmm, F'.col m hmm, F'.wl m hmm, fun H2 x s2 nx HA => ?_⟩
      refine ⟨_, s2 _ _ hd, by rw [List.length_map]; omega, same_in (sm.trans s2) hD, hs ++ [x], by rw [upd_same, map_snoc], ?_⟩
      have le : Le H2 (upd H2 D (.lst (hs.map V.ref ++ [V.ref x]))) := fun b o e n => by
        have : b ≠ D := fun z => by
          rw [z, s2 _ _ hd] at e
          rw [← Option.some.inj e] at n
          exact n
        rw [upd_ne this]
        exact e
      rw [List.take_add_one, hm]
      exact (Paired.mapP hx fun a m h => (h.mono (Le.of_same s2)).mono le).snoc (HA.mono le)
    · rintro H1 ⟨sm, hs, hd, hx⟩
      rw [List.take_of_length_le (by rw [List.length_map]; omega)] at hx
      refine ⟨D, _, rfl, .inl ⟨SqL.of hd, fun t ht => ?_⟩⟩
      have s2 : Same H1 (upd H1 t (.tup (hs.map V.ref))) := same_upd ht
      intro x dx nx ndx nex
      have s3 : Same (upd H1 t (.tup (hs.map V.ref))) (upd (upd (upd H1 t (.tup (hs.map V.ref))) dx (.own x)) x (.ins CC dx [])) := fun b o e => by
        rw [upd_ne (ne_of_none e nx), upd_ne (ne_of_none e ndx)]
        exact e
      have sA := sm.trans s2
      refine ⟨x, dx, t, hs, ms, rfl, upd_same, ⟨s3 _ _ upd_same, Paired.mapP hx fun a m h => h.mono (Le.of_same (s2.trans s3))⟩, F', fun H2 k CA => ⟨rfl, ?_⟩⟩
      refine q H2 x (fun b o h => ?_) (sA.free nx) CA
      have hb := sA _ _ h
      exact k b o (s3 _ _ hb) (ne_of_none hb nx)
end
end DL

/-! the law's known, far, apart, owners, led -/
namespace DL
open PySem L2 DI DO DS

/-- the colours of models -/
def InM (ms : List Model) (c : Str) : Prop := ∃ m ∈ ms, ∃ (h x : Nat), m.E h c = some x
theorem lock_back {H : Hp} {e : Addr} {u : HO} {od : Obj} (he : H e = some u) {H' : Hp} (sm : Same (upd H e (.frz od u)) H') : Same H (upd H' e u) := fun b o h => by
  by_cases hb : b = e
  · rw [hb, he] at h
    rw [hb, upd_same]
    exact h
  · rw [upd_ne hb]
    refine sm b o ?_
    rw [upd_ne hb]
    exact h

section
variable {P : Program} {w : World} {K : PySem.W.Frag} {mg : Str → Option Value} {base : Heap} {CH CC : Addr}

/-! ### _law_known -/
def spKnown : Sp := fun vs H Q _ => ∃ (l : Addr) (as : List Addr) (ms : List Model), vs = [.ref l] ∧ ModelsAt H l as ms ∧ (∀ m ∈ ms, Good m.N m.ws m.E) ∧ (ms.map fun m => m.N * m.ws.length).sum ≤ 1000 ∧
  ∀ H' q (xs : List Str), Same H H' → H q = none → H' q = some (.lst (xs.map V.str)) → (∀ c, c ∈ xs ↔ InM ms c) → xs.length ≤ 1000 → Q (.ref q) H'
theorem scKnown : FnScope ["_law_models", "_law_found", "_law_model", "_law_key"] ["_law_models"] (defScope sKnown) := ⟨rfl, rfl, rfl, by decide +kernel, rfl, by decide +kernel, by decide +kernel⟩
theorem sum_take_le : ∀ (l : List Nat) (i : Nat), (l.take i).sum ≤ l.sum
  | [], i => by rw [List.take_nil]; exact Nat.le_refl _
  | x :: l, 0 => Nat.zero_le _
  | x :: l, i + 1 => by
    rw [List.take_succ_cons, List.sum_cons, List.sum_cons]
    exact Nat.add_le_add_left (sum_take_le l i) x
theorem ok_known {f : Addr} {fd : FuncData} (F : L2.Fun K "_law_known" "_law_known" sKnown f fd) (T : Txt K mg CH CC) : FnOk P w K mg base CX0 1 f fd ["_law_models"] spKnown := by
  refine F.ok scKnown (fun vs H Q E h => ?_) (fun cdv A outer s H vs Q E hr h => ?_)
  · obtain ⟨l, as, ms, rfl, _⟩ := h
    rfl
  · obtain ⟨l, as, ms, rfl, M, G, hsum, q⟩ := h
    refine ⟨_, pss_cons (ps_set (i := 1) scKnown.nd rfl (Or.inl rfl) (pe_lst pa_nil))
      (pss_cons (ps_for PassesOwn.never rfl (pi_list (pv 0)) (pg_name (i := 2) scKnown.nd rfl (Or.inl rfl))
        (pss_one (ps_set (i := 1) scKnown.nd rfl (Or.inl rfl) (pe_op op_cat (pv 1) (pe_lock (pe_lc (own := [("_law_key", 3)]) (g := gName 3) (tt := tYes) rfl scKnown.nd (pi_keys (pe_ix ix_tup (pv 2) pe_int (fun _ _ => rfl))) (blkOk_by (N := ["_law_models", "_law_found", "_law_model", "_law_key"]) (sc := defScope sKnown) (by decide +kernel))
          (fun _ _ _ _ _ => pg_name (i := 3) scKnown.nd rfl (Or.inl rfl)) (fun _ _ _ _ _ => pts_nil) (fun _ _ _ _ _ => pe_ix (r := rIxT K) ix_tup (pv 3) pe_int (fun _ _ => rfl))))))))
      (pss_one (ps_ret (pe_callB (cr_sortT rfl (u4 hr)) (by rfl) T.zsorted PyProof.Rows.boot_sorted (pa_cons (pe_callTy (cr_setL rfl) (by rfl) T.zset PyProof.Rows.boot_set (pa_cons (pv 1) pa_nil)) pa_nil))))), ?_⟩
    have hsz : (4000 : Nat) < sizeLine := by decide
    have hlen : as.length = ms.length := M.d.length
    refine ⟨Nat.zero_le _, fun f0 hf => ?_⟩
    refine ⟨_, rfl, l, rfl, ⟨_, (same_upd hf).seq (SqL.of M.l)⟩, ?_⟩
    refine for_list (K := K) (a := l) (xs := as.map V.ref) (fun i σ H' => ∃ (fx : Addr) (v2 v3 : Option V) (xs : List Str), σ = [some (.ref l), some (.ref fx), v2, v3] ∧ Same H H' ∧ H' fx = some (.lst (xs.map V.str)) ∧ (∀ c, c ∈ xs ↔ InM (ms.take i) c) ∧ xs.length ≤ ((ms.take i).map fun m => m.N * m.ws.length).sum)
      ⟨f0, none, none, [], rfl, same_upd hf, upd_same, fun c => by simp [InM], Nat.le_refl _⟩ (fun i σ H' _ ⟨_, _, _, _, _, s', _⟩ => SqL.of (M.same s').l) ?_ ?_
    · rintro i y σ H1 hi ⟨fx, v2, v3, xs, rfl, sm, hfx, hmem, hxl⟩
      obtain ⟨a, ha, rfl⟩ := get_map hi
      obtain ⟨m, hm, hma⟩ := paired_get M.d ha
      obtain ⟨e, kvs, h1, h2, R⟩ := (hma.mono (Le.of_same sm)).ex
      have hmm := List.mem_of_getElem? hm
      have hkl := rep_len R (G m hmm).g
      have htk : ms.take (i + 1) = ms.take i ++ [m] := by rw [List.take_add_one, hm]; rfl
      have hsum1 : ((ms.take (i + 1)).map fun m => m.N * m.ws.length).sum = ((ms.take i).map fun m => m.N * m.ws.length).sum + m.N * m.ws.length := by
        rw [htk, List.map_append, List.sum_append]
        rfl
      have hsum2 : ((ms.take (i + 1)).map fun m => m.N * m.ws.length).sum ≤ 1000 := by
        rw [List.map_take]
        exact Nat.le_trans (sum_take_le _ _) hsum
      refine ⟨_, rfl, e, .dT kvs, h2, trivial, fun od => ?_⟩
      have hfe : fx ≠ e := ne_of hfx h2 fun z => by cases z
      have h1' : (upd H1 e (.frz od (.dT kvs))) a = some (.tup [nv m.N, .ref e]) := by
        rw [upd_ne (ne_of h1 h2 fun z => by cases z)]
        exact h1
      refine ⟨_, rfl, a, _, 1, _, rfl, rfl, SqT.of h1', atI_nat (j := 1) rfl, e, od, rfl, .inr ⟨kvs, upd_same, fun D hD => ?_⟩⟩
      have hfrz : (upd H1 e (.frz od (.dT kvs))) e = some (.frz od (.dT kvs)) := upd_same
      have hDe : D ≠ e := fun z => by rw [z, upd_same] at hD; cases hD
      have hback := fun H' => lock_back (od := od) h2 (H' := H')
      revert hD hfrz hback
      generalize upd H1 e (.frz od (.dT kvs)) = HL
      intro hD hfrz hback
      refine lc_gen (J := Itkt e od kvs) (n := kvs.length) (fun j H' => Same HL H' ∧ ∃ ys : List Str, H' D = some (.lst (ys.map V.str)) ∧ ys.length = j ∧ ∀ c, c ∈ ys ↔ ∃ (h x : Nat), (EKey h c, nv x) ∈ kvs.take j) ⟨same_upd hD, [], upd_same, rfl, fun c => by simp⟩
        (fun j H' hj ⟨s', _⟩ => ⟨s' _ _ hfrz, hj⟩) (fun H' ⟨s', _⟩ => ⟨s' _ _ hfrz, Nat.le_refl _⟩) ?_ ?_
      · rintro j y H2 H3 hj ⟨s2, ys, hd, hyl, hym⟩ ⟨rfl, k, v, kq, hk, rfl, hkq⟩
        obtain ⟨h, c, x, e1, hE⟩ := R.get hk
        have e1' : k = EKey h c := congrArg (·.1) e1
        have e2' : v = nv x := congrArg (·.2) e1
        subst e1' e2'
        have tk : kvs.take (j + 1) = kvs.take j ++ [(EKey h c, nv x)] := by rw [List.take_add_one, hk]; rfl
        refine ⟨rfl, tyes ⟨_, rfl, kq, _, 1, V.str c, rfl, rfl, SqT.of hkq, atI_nat (j := 1) rfl, ys.map V.str, hd, by rw [List.length_map]; omega, same_in s2 hD, ys ++ [c], by rw [upd_same, map_snoc], by rw [List.length_append, List.length_singleton, hyl], fun c' => ?_⟩⟩
        rw [List.mem_append, hym, tk]
        constructor
        · rintro (⟨h', x', m'⟩ | z)
          · exact ⟨h', x', List.mem_append_left _ m'⟩
          · rw [List.mem_singleton.mp z]
            exact ⟨h, x, List.mem_append_right _ (List.mem_singleton.mpr rfl)⟩
        · rintro ⟨h', x', m'⟩
          rcases List.mem_append.mp m' with z | z
          · exact .inl ⟨h', x', z⟩
          · right
            have z := (ekey_inj (congrArg (·.1) (List.mem_singleton.mp z))).2
            rw [z]
            exact List.mem_singleton.mpr rfl
      · rintro H2 ⟨s2, ys, hd, hyl, hym⟩
        rw [List.take_length] at hym
        refine ⟨s2 _ _ hfrz, ?_⟩
        have sb := hback H2 s2
        have hd' : (upd H2 e (.dT kvs)) D = some (.lst (ys.map V.str)) := by rw [upd_ne hDe]; exact hd
        refine ⟨fx, D, _, _, rfl, rfl, sb _ _ hfx, hd', by rw [List.length_map, List.length_map]; omega, fun z hz => ?_⟩
        have s3 := sm.trans sb
        refine ⟨z, _, _, xs ++ ys, rfl, same_in s3 (s3.free hz), by rw [upd_same, List.map_append], fun c => ?_, by rw [List.length_append, hsum1]; omega⟩
        rw [List.mem_append, hmem, hym, htk]
        constructor
        · rintro (⟨m', hm', h', x', hE⟩ | ⟨h', x', m'⟩)
          · exact ⟨m', List.mem_append_left _ hm', h', x', hE⟩
          · exact ⟨m, List.mem_append_right _ (List.mem_singleton.mpr rfl), h', x', R.at m'⟩
        · rintro ⟨m', hm', h', x', hE⟩
          rcases List.mem_append.mp hm' with z | z
          · exact .inl ⟨m', z, h', x', hE⟩
          · rw [List.mem_singleton.mp z] at hE
            exact .inr ⟨h', x', R.mem hE⟩
    · rintro σ H1 ⟨fx, v2, v3, xs, rfl, sm, hfx, hmem, hxl⟩
      rw [List.take_of_length_le (by rw [List.length_map]; omega)] at hmem hxl
      have hb : scanBound = 4096 := rfl
      refine ⟨_, rfl, fx, xs, rfl, SqL.of hfx, by omega, fun z hz => ?_⟩
      have hz0 := sm.free hz
      refine ⟨z, xs, rfl, upd_same, fun ys p hm hl _ hp => ?_⟩
      have s2 : Same H (upd H1 z (SetTO w z xs)) := same_in sm hz0
      refine q _ p ys (same_in s2 (s2.free hp)) (s2.free hp) upd_same (fun c => (hm c).trans (hmem c)) (by omega)

/-! ### _law_far -/
def spFar : Sp := fun vs H Q _ => ∃ (a : Addr) (m : Model) (s : Nat), vs = [.ref a, nv s] ∧ ModelAt H a m ∧ Good m.N m.ws m.E ∧ m.ws.length ≤ 15 ∧ s < m.N ∧
  ∀ H' d order, Same H H' → H d = none → H' d = some (.dK (fk m.E s order)) → (∀ y, y < m.N → y ∈ order) → Q (.ref d) H'
theorem scFar : FnScope ["_law_model", "_law_source", "_law_words_here", "_law_found", "_law_order", "_law_at", "_law_word", "_law_there"] ["_law_model", "_law_source"] (defScope sFar) := ⟨rfl, rfl, rfl, by decide +kernel, rfl, by decide +kernel, by decide +kernel⟩
set_option maxHeartbeats 2000000 in
theorem ok_far {f : Addr} {fd : FuncData} (F : L2.Fun K "_law_far" "_law_far" sFar f fd) (T : Txt K mg CH CC) (cK : Cal P w K mg base 1 "_law_known" spKnown) : FnOk P w K mg base CX0 2 f fd ["_law_model", "_law_source"] spFar := by
  refine F.ok scFar (fun vs H Q E h => ?_) (fun cdv A outer s0 H vs Q E hr h => ?_)
  · obtain ⟨a, m, s, rfl, _⟩ := h
    rfl
  · obtain ⟨a, m, s, rfl, M, G, hwl, hs, q⟩ := h
    have hu := hu_of hr
    refine ⟨_, pss_cons (ps_asg (pe_tup (pa_cons (pe_c cK hr (by decide) (by rfl) (pa_cons (pe_lst (pa_cons (pv 0) pa_nil)) pa_nil)) (pa_cons (pe_disp (pps_cons (pv 1) pe_int pps_nil) (by rfl) (by rfl) (fun z => by cases z) (by decide)) (pa_cons (pe_lst (pa_cons (pv 1) pa_nil)) (pa_cons pe_int pa_nil)))))
        (pg_tup rfl (pgs_cons (pg_name (i := 2) scFar.nd rfl (Or.inl rfl)) (pgs_cons (pg_name (i := 3) scFar.nd rfl (Or.inl rfl)) (pgs_cons (pg_name (i := 4) scFar.nd rfl (Or.inl rfl)) (pgs_cons (pg_name (i := 5) scFar.nd rfl (Or.inl rfl)) pgs_nil))))))
      (pss_cons (ps_while PassesOwn.never (pt_cmpR op_lt (pv 5) (pe_callB call_len_seq (by rfl) T.zlen boot_len (pa_cons (pv 4) pa_nil)) (nomark _))
        (pss_cons (ps_for PassesOwn.never rfl (pi_list (pv 2)) (pg_name (i := 6) scFar.nd rfl (Or.inl rfl))
          (pss_cons (ps_set (i := 7) scFar.nd rfl (Or.inl rfl) (pe_dget2 hu (pe_ix ix_tup (pv 0) pe_int (fun _ _ => rfl)) (pe_tup (pa_cons (pe_ix ix_list (pv 4) (pv 5) (fun _ _ => rfl)) (pa_cons (pv 6) pa_nil))) (pv 1) ⟨rfl, rfl, rfl, rfl⟩))
          (pss_one (ps_if (pt_cmp (pc_dnotin hu (pv 7) (pv 3)) rfl)
            (pss_cons (ps_dput hu (pv 3) (pv 7) (pe_op op_add (pe_dget hu (pv 3) (pe_ix ix_list (pv 4) (pv 5) (fun _ _ => rfl)) (fun _ _ => rfl)) pe_int) rfl)
              (pss_one (ps_expr (pe_bm PySem.F.plainAttrs_list PySem.F.slot_list_append PySem.F.type_list_append mt_append (pv 4) (pa_cons (pv 7) pa_nil))))) pss_nil))))
        (pss_one (ps_set (i := 5) scFar.nd rfl (Or.inl rfl) (pe_op op_add (pv 5) pe_int)))))
      (pss_one (ps_ret (pv 3)))), ?_⟩
    have h64 : (4000 : Nat) < sizeLine := by decide
    obtain ⟨e, kvs, h1, h2, R⟩ := M.ex
    refine ⟨_, rfl, by show 1 ≤ sizeLine; decide, fun lm hlm => ?_⟩
    have s0m : Same H (upd H lm (.lst [.ref a])) := same_upd hlm
    refine ⟨lm, [a], [m], rfl, ⟨upd_same, .cons (M.mono (Le.of_same s0m)) .nil⟩, fun m' hm' => by rw [List.mem_singleton.mp hm']; exact G, ?_, fun H1 kn cs s1 n1 hk hcs hl1 => ?_⟩
    · show m.N * m.ws.length + 0 ≤ 1000
      have := Nat.mul_le_mul G.le hwl
      omega
    have hcs' : ∀ c h x, m.E h c = some x → c ∈ cs := fun c h x e => (hcs c).2 ⟨m, List.mem_singleton.mpr rfl, h, x, e⟩
    have s1 := s0m.trans s1
    refine fun d hd => ⟨_, rfl, ?_⟩
    refine ⟨upd_same, [((Sum.inl (s : Int) : Key), V.int 0)], rfl, by show 1 ≤ 15; decide, ?_⟩
    rw [fk_one (E := m.E)]
    have hd0 : H d = none := s1.free hd
    have s2 : Same H (upd (upd H1 d (.dK [])) d (.dK (fk m.E s [s]))) := same_in (same_in s1 hd0) hd0
    have hk2 : (upd (upd H1 d (.dK [])) d (.dK (fk m.E s [s]))) kn = some (.lst (cs.map V.str)) := by
      have : kn ≠ d := ne_of_none hk hd
      rw [upd_ne this, upd_ne this]
      exact hk
    have hd2 : (upd (upd H1 d (.dK [])) d (.dK (fk m.E s [s]))) d = some (.dK (fk m.E s [s])) := upd_same
    generalize upd (upd H1 d (.dK [])) d (.dK (fk m.E s [s])) = H2 at s2 hk2 hd2
    refine ⟨_, rfl, by show 1 ≤ sizeLine; decide, fun o ho => ?_⟩
    have ho0 : H o = none := s2.free ho
    refine ⟨by show 4 ≤ sizeLine; decide, fun p hp => ?_⟩
    have s3 : Same H (upd (upd H2 o (.lst [nv s])) p (.tup [.ref kn, .ref d, .ref o, .int 0])) := same_in (same_in s2 ho0) ((same_in s2 ho0).free hp)
    refine ⟨p, _, rfl, SqT.of upd_same, rfl, _, _, rfl, _, _, rfl, _, _, rfl, _, _, rfl, rfl, ?_⟩
    have hk3 : (upd (upd H2 o (.lst [nv s])) p (.tup [.ref kn, .ref d, .ref o, .int 0])) kn = some (.lst (cs.map V.str)) := at_in (at_in hk2 ho) hp
    have hd3 : (upd (upd H2 o (.lst [nv s])) p (.tup [.ref kn, .ref d, .ref o, .int 0])) d = some (.dK (fk m.E s [s])) := at_in (at_in hd2 ho) hp
    have ho3 : (upd (upd H2 o (.lst [nv s])) p (.tup [.ref kn, .ref d, .ref o, .int 0])) o = some (.lst [nv s]) := at_in upd_same hp
    have hod : o ≠ d := (ne_of_none hd2 ho).symm
    have hok : kn ≠ o := ne_of_none hk2 ho
    have hdk : kn ≠ d := ne_of hk2 hd2 (fun z => by cases z)
    clear hp hk hk2 hd2
    revert s3 hk3 hd3 ho3
    generalize upd (upd H2 o (.lst [nv s])) p (.tup [.ref kn, .ref d, .ref o, .int 0]) = H3
    intro s3 hk3 hd3 ho3
    refine ⟨fun n σ H' => ∃ (at_ : Nat) (order : List Nat) (v6 v7 : Option V), n = 65 - at_ ∧ σ = [some (.ref a), some (nv s), some (.ref kn), some (.ref d), some (.ref o), some (nv at_), v6, v7] ∧ Same H H' ∧ H' kn = some (.lst (cs.map V.str)) ∧ H' o = some (.lst (order.map nv)) ∧ H' d = some (.dK (fk m.E s order)) ∧ Dm.Bfs m.E s order at_,
      ⟨_, 0, [s], none, none, rfl, rfl, s3, hk3, ho3, hd3, Dm.Bfs.start s⟩, ?_⟩
    clear s3 hk3 hd3 ho3 s2
    rintro n σ H4 ⟨at_, order, v6, v7, rfl, rfl, sm, hk, hoo, hdd, B⟩
    have hN := G.le
    have hlen := B.len G.g hs
    refine ⟨_, rfl, _, rfl, o, _, rfl, .inl (SqL.of hoo), _, _, rfl, rfl, _, rfl, ?_⟩
    rw [List.length_map]
    refine ite2 (fun hlt => ?_) (fun hge => ?_)
    · have hlt : at_ < order.length := by have := of_decide_eq_true hlt; omega
      obtain ⟨x, hx⟩ : ∃ x, order[at_]? = some x := ⟨_, List.getElem?_eq_getElem hlt⟩
      refine ⟨fun σ' H' => ∃ (order : List Nat) (v6 v7 : Option V), σ' = [some (.ref a), some (nv s), some (.ref kn), some (.ref d), some (.ref o), some (nv (at_ + 1)), v6, v7] ∧ Same H H' ∧ H' kn = some (.lst (cs.map V.str)) ∧ H' o = some (.lst (order.map nv)) ∧ H' d = some (.dK (fk m.E s order)) ∧ Dm.Bfs m.E s order (at_ + 1),
        fun σ' H' ⟨order, v6, v7, e1, e2, e3, e4, e5, e6⟩ => ⟨_, by omega, at_ + 1, order, v6, v7, rfl, e1, e2, e3, e4, e5, e6⟩, ?_⟩
      refine ⟨_, rfl, kn, rfl, ⟨_, SqL.of hk⟩, for_list (K := K) (a := kn) (xs := cs.map V.str) (fun i σ H' => ∃ (order : List Nat) (v6 v7 : Option V), σ = [some (.ref a), some (nv s), some (.ref kn), some (.ref d), some (.ref o), some (nv at_), v6, v7] ∧ Same H H' ∧ H' kn = some (.lst (cs.map V.str)) ∧ H' o = some (.lst (order.map nv)) ∧ H' d = some (.dK (fk m.E s order)) ∧ Dm.Bfs m.E s order at_ ∧ order[at_]? = some x ∧
        ∀ j, j < i → ∀ c, cs[j]? = some c → ∀ y, m.E x c = some y → y ∈ order) ⟨order, v6, v7, rfl, sm, hk, hoo, hdd, B, hx, fun j hj => absurd hj (Nat.not_lt_zero _)⟩ (fun i σ H' _ ⟨_, _, _, _, _, hk, _⟩ => SqL.of hk) ?_ ?_⟩
      · clear hlen hlt hk hoo hdd sm B hx
        rintro i y σ H5 hi ⟨order, v6, v7, rfl, sm, hk, hoo, hdd, B, hx, done⟩
        obtain ⟨c, hc, rfl⟩ := get_map hi
        have hlen := B.len G.g hs
        have hat : atI (order.map nv) ((at_ : Nat) : Int) = some (nv x) := atI_nat (by rw [List.getElem?_map, hx]; rfl)
        refine ⟨_, rfl, a, _, 1, _, rfl, rfl, SqT.of (sm _ _ h1), atI_nat (j := 1) rfl, e, rfl, .inr ⟨_, .inl (sm _ _ h2)⟩, _, rfl, _, rfl, o, _, _, _, rfl, rfl, SqL.of hoo, hat, _, rfl, by show 2 ≤ sizeLine; decide, fun p hp => ?_⟩
        have hkp : (upd H5 p (.tup [nv x, .str c])) p = some (.tup ((EKey x c).map kV)) := upd_same
        refine ⟨_, rfl, _, DGet.t (at_in (sm _ _ h2) hp) hkp, ?_⟩
        rw [val_getN R]
        have sm' : Same H (upd H5 p (.tup [nv x, .str c])) := same_in sm (sm.free hp)
        have hk' := at_in (u := .tup [nv x, .str c]) hk hp
        have hoo' := at_in (u := .tup [nv x, .str c]) hoo hp
        have hdd' := at_in (u := .tup [nv x, .str c]) hdd hp
        obtain ⟨z, hzv, z1, z2, z3⟩ : ∃ z : Nat, (m.E x c).getD s = z ∧ (∀ y, m.E x c = some y → y = z) ∧ (m.E x c = none → z ∈ order) ∧ (z ∉ order → m.E x c = some z) := by
          cases hE : m.E x c with
          | none => exact ⟨s, rfl, fun y h => (by cases h), fun _ => B.src, fun h => absurd B.src h⟩
          | some z => exact ⟨z, rfl, fun y h => (Option.some.inj h).symm, fun h => (by cases h), fun _ => rfl⟩
        rw [hzv]
        clear hkp sm hk hoo hdd hzv
        revert sm' hk' hoo' hdd'
        dsimp only
        generalize upd H5 p (.tup [nv x, .str c]) = H6
        intro sm hk hoo hdd
        have hg := fk_get m.E s z order
        have fin : ∀ j, j < i + 1 → ∀ order' : List Nat, (∀ u ∈ order, u ∈ order') → z ∈ order' → ∀ c', cs[j]? = some c' → ∀ y', m.E x c' = some y' → y' ∈ order' := fun j hj order' hsub hz c' hc' y' hy' => by
          rcases Nat.lt_or_ge j i with q' | q'
          · exact hsub _ (done j q' c' hc' y' hy')
          · have ej : j = i := by omega
            rw [ej, hc] at hc'
            rw [← Option.some.inj hc'] at hy'
            rw [z1 y' hy']
            exact hz
        refine ⟨_, rfl, _, rfl, d, _, rfl, DGet.k (k := Sum.inl (z : Int)) hdd, _, rfl, ?_⟩
        by_cases hz : z ∈ order
        · rw [hg, if_pos hz]
          exact iteF ⟨order, _, _, rfl, sm, hk, hoo, hdd, B, hx, fun j hj => fin j hj order (fun _ h => h) hz⟩
        · rw [hg, if_neg hz]
          refine iteT ?_
          have hez := z3 hz
          have B2 := B.push hx hez hz
          have hdist := B.new hx hez hz
          have hxo : x ∈ order := List.mem_of_getElem? hx
          have hgx := fk_get m.E s x order
          rw [if_pos hxo] at hgx
          have ev : V.int (((Dm.dist m.E s x : Nat) : Int) + 1) = nv (Dm.dist m.E s z) := by rw [hdist]; rfl
          have hput : DPut H6 d (nv z) (V.int (((Dm.dist m.E s x : Nat) : Int) + 1)) (upd H6 d (.dK (fk m.E s (order ++ [z])))) := by
            have := DPut.k (k := Sum.inl (z : Int)) (v := V.int (((Dm.dist m.E s x : Nat) : Int) + 1)) hdd (by unfold fk; rw [List.length_map]; omega)
            rw [ev, fk_put hz] at this
            rw [ev]
            exact this
          refine ⟨_, rfl, _, rfl, _, rfl, o, _, _, _, rfl, rfl, SqL.of hoo, hat, d, nv (Dm.dist m.E s x), rfl, by rw [← hgx]; exact DGet.k (k := Sum.inl (x : Int)) hdd, _, _, rfl, rfl, ?_⟩
          refine ⟨_, rfl, _, rfl, d, _, rfl, hput, ?_⟩
          have hoo2 : (upd H6 d (.dK (fk m.E s (order ++ [z])))) o = some (.lst (order.map nv)) := by
            rw [upd_ne hod]
            exact hoo
          refine ⟨_, rfl, .inl ⟨rfl, _, SqL.of hoo2⟩, _, rfl, o, _, _, rfl, rfl, hoo2, by rw [List.length_map]; omega, ?_⟩
          refine ⟨order ++ [z], _, _, rfl, same_in (same_in sm hd0) ho0, ?_, by rw [upd_same, map_snoc], ?_, B2, ?_, fun j hj => fin j hj _ (fun _ h => List.mem_append_left _ h) (List.mem_append_right _ (List.mem_singleton.mpr rfl))⟩
          · rw [upd_ne hok, upd_ne hdk]
            exact hk
          · rw [upd_ne hod.symm, upd_same]
          · rw [List.getElem?_append_left (by exact (List.getElem?_eq_some_iff.mp hx).1)]
            exact hx
      · rintro σ H5 ⟨order, v6, v7, rfl, sm, hk, hoo, hdd, B, hx, done⟩
        refine ⟨_, rfl, _, _, rfl, rfl, ?_⟩
        refine ⟨order, _, _, rfl, sm, hk, hoo, hdd, B.next hx fun c y hy => ?_⟩
        obtain ⟨j, hj⟩ := List.mem_iff_getElem?.mp (hcs' c x y hy)
        have hj' := (List.getElem?_eq_some_iff.mp hj).1
        exact done j (by rw [List.length_map]; exact hj') c hj y hy
    · have hge : order.length ≤ at_ := by
        rcases Nat.lt_or_ge at_ order.length with z | z
        · exact absurd (decide_eq_true (show ((at_ : Nat) : Int) < ((order.length : Nat) : Int) by omega)) hge
        · exact z
      exact ⟨_, rfl, q _ d order sm hd0 hdd fun y hy => B.all G.g hs hge hy⟩

/-! ### _law_apart -/
def spApart : Sp := fun vs H Q _ => ∃ (l v u : Addr) (as : List Addr) (ms : List Model) (xs ys : List Nat), vs = [.ref l, .ref v, .ref u] ∧ ModelsAt H l as ms ∧ Fit ms ∧ H v = some (.tup (xs.map nv)) ∧ Spot ms xs ∧ H u = some (.tup (ys.map nv)) ∧ Spot ms ys ∧
  ∀ H', Same H H' → Q (nv (apart ms xs ys)) H'
theorem scApart : FnScope ["_law_models", "_law_source", "_law_target", "_law_k"] ["_law_models", "_law_source", "_law_target"] (defScope sApart) := ⟨rfl, rfl, rfl, by decide +kernel, rfl, by decide +kernel, by decide +kernel⟩
theorem ok_apart {f : Addr} {fd : FuncData} (F : L2.Fun K "_law_apart" "_law_apart" sApart f fd) (T : Txt K mg CH CC) (cF : Cal P w K mg base 2 "_law_far" spFar) : FnOk P w K mg base CX0 3 f fd ["_law_models", "_law_source", "_law_target"] spApart := by
  refine F.ok scApart (fun vs H Q E h => ?_) (fun cdv A outer s H vs Q E hr h => ?_)
  · obtain ⟨l, v, u, as, ms, xs, ys, rfl, _⟩ := h
    rfl
  · obtain ⟨l, v, u, as, ms, xs, ys, rfl, M, F', hv, Sx, hu', Sy, q⟩ := h
    have hu := hu_of hr
    refine ⟨_, pss_one (ps_ret (pe_callB (cr_sum rfl) (by rfl) T.zsum PyProof.Rows.boot_sum (pa_cons
        (pe_lc (own := [("_law_k", 3)]) (g := gName 3) (tt := tYes) rfl scApart.nd (pi_range1 rfl T.zrange (pa_cons (pe_callB call_len_seq (by rfl) T.zlen boot_len (pa_cons (pv 0) pa_nil)) pa_nil))
          (blkOk_by (N := ["_law_models", "_law_source", "_law_target", "_law_k"]) (sc := defScope sApart) (by decide +kernel)) (fun _ _ _ _ _ => pg_name (i := 3) scApart.nd rfl (Or.inl rfl)) (fun _ _ _ _ _ => pts_nil)
          (fun _ _ _ _ _ => pe_dget hu (pe_c cF hr (by decide) (by rfl) (pa_cons (pe_ix (r := rIxL K) ix_list (pv 0) (pv 3) (fun _ _ => rfl)) (pa_cons (pe_ix (r := rIxT K) ix_tup (pv 1) (pv 3) (fun _ _ => rfl)) pa_nil))) (pe_ix (r := rIxT K) ix_tup (pv 2) (pv 3) (fun _ _ => rfl)) (fun _ _ => rfl))) pa_nil))), ?_⟩
    have hal : as.length = ms.length := M.d.length
    have hxl : ms.length = xs.length := Sx.length
    have hyl : ms.length = ys.length := Sy.length
    have hl72 := F'.len
    have hsz : (4000 : Nat) < sizeLine := by decide
    obtain ⟨ds, hds, hget, hsum⟩ := apart_get Sx Sy
    refine ⟨_, rfl, l, _, rfl, .inl (SqL.of M.l), _, rfl, by rw [List.length_map]; omega, by rw [List.length_map]; omega, fun D hD => ?_⟩
    refine lc_range (lo := 0) (n := (((as.map V.ref).length : Nat) : Int).toNat) (fun i H' => Same H H' ∧ H' D = some (.lst ((ds.take i).map nv))) ⟨same_upd hD, upd_same⟩ ?_ ?_
    · rintro i H3 hi ⟨sm, hd⟩
      have hi : i < as.length := by rw [Int.toNat_natCast, List.length_map] at hi; exact hi
      obtain ⟨a, ha⟩ : ∃ a, as[i]? = some a := ⟨_, List.getElem?_eq_getElem hi⟩
      obtain ⟨m, hm, hma⟩ := paired_get M.d ha
      obtain ⟨x, hx, hxlt⟩ := paired_get Sx hm
      obtain ⟨y, hy, hylt⟩ := paired_get Sy hm
      have hmm := List.mem_of_getElem? hm
      have e0 : (0 : Int) + ((i : Nat) : Int) = ((i : Nat) : Int) := Int.zero_add _
      have h1 : atI (as.map V.ref) (0 + ((i : Nat) : Int)) = some (V.ref a) := by rw [e0]; exact atI_nat (by rw [List.getElem?_map, ha]; rfl)
      have h2 : atI (xs.map nv) (0 + ((i : Nat) : Int)) = some (nv x) := by rw [e0]; exact atI_nat (by rw [List.getElem?_map, hx]; rfl)
      have h3 : atI (ys.map nv) (0 + ((i : Nat) : Int)) = some (nv y) := by rw [e0]; exact atI_nat (by rw [List.getElem?_map, hy]; rfl)
      refine ⟨rfl, tyes ?_⟩
      refine ⟨_, rfl, _, rfl, l, _, _, _, rfl, rfl, SqL.of (M.same sm).l, h1, _, rfl, _, rfl, v, _, _, _, rfl, rfl, SqT.of (sm _ _ hv), h2, ?_⟩
      refine ⟨a, m, x, rfl, hma.mono (Le.of_same sm), F'.good m hmm, F'.wl m hmm, hxlt, fun H4 d order s4 n4 hdd hall => ?_⟩
      have g := fk_get m.E x y order
      rw [if_pos (hall y hylt)] at g
      refine ⟨_, rfl, _, rfl, u, _, _, _, rfl, rfl, SqT.of (s4 _ _ (sm _ _ hu')), h3, d, nv (Dm.dist m.E x y), rfl, by rw [← g]; exact DGet.k (k := Sum.inl (y : Int)) hdd, ?_⟩
      refine ⟨_, s4 _ _ hd, by rw [List.length_map, List.length_take]; omega, same_in (sm.trans s4) hD, ?_⟩
      rw [upd_same, List.take_add_one, hget i m x y hm hx hy, List.map_append]
      rfl
    · rintro H3 ⟨sm, hd⟩
      rw [List.take_of_length_le (by rw [Int.toNat_natCast, List.length_map]; omega)] at hd
      refine ⟨D, ds.map fun x : Nat => (x : Int), rfl, by rw [List.map_map]; exact SqL.of hd, ?_⟩
      rw [sum_cast, ← hsum]
      exact q _ sm

/-! ### _law_owners -/
def spOwners : Sp := fun vs H Q _ => ∃ (l : Addr) (as : List Addr) (ms : List Model), vs = [.ref l] ∧ ModelsAt H l as ms ∧ Fit ms ∧
  ∀ H' d kvs, Same H H' → H d = none → H' d = some (.dK kvs) → (∀ c v, valV kvs (.inr c) = some v → ∃ k, k < ms.length ∧ v = nv k) → Q (.ref d) H'
theorem scOwners : FnScope ["_law_models", "_law_found", "_law_k", "_law_hall", "_law_word"] ["_law_models"] (defScope sOwners) := ⟨rfl, rfl, rfl, by decide +kernel, rfl, by decide +kernel, by decide +kernel⟩
theorem ok_owners {f : Addr} {fd : FuncData} (F : L2.Fun K "_law_owners" "_law_owners" sOwners f fd) (T : Txt K mg CH CC) : FnOk P w K mg base CX0 1 f fd ["_law_models"] spOwners := by
  refine F.ok scOwners (fun vs H Q E h => ?_) (fun cdv A outer s H vs Q E hr h => ?_)
  · obtain ⟨l, as, ms, rfl, _⟩ := h
    rfl
  · obtain ⟨l, as, ms, rfl, M, F', q⟩ := h
    have hu := hu_of hr
    refine ⟨_, pss_cons (ps_set (i := 1) scOwners.nd rfl (Or.inl rfl) pe_dnewK)
      (pss_cons (ps_for PassesOwn.never rfl (pi_range1 rfl T.zrange (pa_cons (pe_callB call_len_seq (by rfl) T.zlen boot_len (pa_cons (pv 0) pa_nil)) pa_nil)) (pg_name (i := 2) scOwners.nd rfl (Or.inl rfl))
        (pss_one (ps_lock (ps_for PassesOwn.never rfl (pi_keys (pe_ix ix_tup (pe_ix ix_list (pv 0) (pv 2) (fun _ _ => rfl)) pe_int (fun _ _ => rfl))) (pg_tup rfl (pgs_cons (pg_name (i := 3) scOwners.nd rfl (Or.inl rfl)) (pgs_cons (pg_name (i := 4) scOwners.nd rfl (Or.inl rfl)) pgs_nil)))
          (pss_one (ps_dput hu (pv 1) (pv 4) (pv 2) rfl))))))
      (pss_one (ps_ret (pv 1)))), ?_⟩
    have hal : as.length = ms.length := M.d.length
    have hl72 := F'.len
    have hsz : (100000 : Nat) < sizeLine := by decide
    refine fun d hd => ?_
    refine ⟨_, rfl, l, _, rfl, .inl (SqL.of (M.same (same_upd hd)).l), _, rfl, by rw [List.length_map]; omega, by rw [List.length_map]; omega, ?_⟩
    refine for_range (lo := 0) (n := (((as.map V.ref).length : Nat) : Int).toNat) (fun i σ H' => ∃ (v2 v3 v4 : Option V) (kvs : List (Key × V)), σ = [some (.ref l), some (.ref d), v2, v3, v4] ∧ Same H H' ∧ H' d = some (.dK kvs) ∧ kvs.length ≤ 1000 * i ∧ ∀ c v, valV kvs (.inr c) = some v → ∃ k, k < ms.length ∧ v = nv k)
      ⟨none, none, none, [], rfl, same_upd hd, upd_same, Nat.le_refl _, fun c v h => by cases h⟩ ?_ ?_
    · rintro i σ H1 hi ⟨v2, v3, v4, kvs, rfl, sm, hdd, hk, hv⟩
      have hi : i < as.length := by rw [Int.toNat_natCast, List.length_map] at hi; exact hi
      obtain ⟨a, ha⟩ : ∃ a, as[i]? = some a := ⟨_, List.getElem?_eq_getElem hi⟩
      obtain ⟨m, hm, hma⟩ := paired_get M.d ha
      have hmm := List.mem_of_getElem? hm
      obtain ⟨e, ks, h1, h2, R⟩ := (hma.mono (Le.of_same sm)).ex
      have hks := rep_len1000 R (F'.good m hmm) (F'.wl m hmm)
      have e0 : (0 : Int) + ((i : Nat) : Int) = ((i : Nat) : Int) := Int.zero_add _
      have hat : atI (as.map V.ref) (0 + ((i : Nat) : Int)) = some (V.ref a) := by rw [e0]; exact atI_nat (by rw [List.getElem?_map, ha]; rfl)
      refine ⟨e, .dT ks, h2, trivial, fun od => ?_⟩
      have hde : d ≠ e := ne_of hdd h2 fun z => by cases z
      have hl1 : (upd H1 e (.frz od (.dT ks))) l = some (.lst (as.map V.ref)) := by
        rw [upd_ne (ne_of (M.same sm).l h2 fun z => by cases z)]
        exact (M.same sm).l
      have ha1 : (upd H1 e (.frz od (.dT ks))) a = some (.tup [nv m.N, .ref e]) := by
        rw [upd_ne (ne_of h1 h2 fun z => by cases z)]
        exact h1
      have hd1 : (upd H1 e (.frz od (.dT ks))) d = some (.dK kvs) := by
        rw [upd_ne hde]
        exact hdd
      have hfrz : (upd H1 e (.frz od (.dT ks))) e = some (.frz od (.dT ks)) := upd_same
      have hback := fun (H' : Hp) (h : ∀ b o, (upd H1 e (.frz od (.dT ks))) b = some o → b ≠ d → H' b = some o) => (show ∀ b o, H b = some o → (upd H' e (.dT ks)) b = some o from fun b o hb => by
        have hbd : b ≠ d := ne_of_none hb hd
        by_cases hbe : b = e
        · have := sm _ _ hb
          rw [hbe, h2] at this
          rw [hbe, upd_same]
          exact this
        · rw [upd_ne hbe]
          refine h b o ?_ hbd
          rw [upd_ne hbe]
          exact sm _ _ hb)
      refine ⟨_, rfl, _, rfl, l, _, _, _, rfl, rfl, SqL.of hl1, hat, a, _, 1, _, rfl, rfl, SqT.of ha1, atI_nat (j := 1) rfl, e, od, rfl, .inr ⟨ks, upd_same, ?_⟩⟩
      revert hl1 ha1 hd1 hfrz hback
      generalize upd H1 e (.frz od (.dT ks)) = HL
      intro hl1 ha1 hd1 hfrz hback
      refine for_gen (J := Itkt e od ks) (n := ks.length) (fun j σ H' => ∃ (v3 v4 : Option V) (kvs : List (Key × V)), σ = [some (.ref l), some (.ref d), some (.int (0 + (i : Nat))), v3, v4] ∧ (∀ b o, HL b = some o → b ≠ d → H' b = some o) ∧ H' d = some (.dK kvs) ∧ kvs.length ≤ 1000 * i + j ∧ ∀ c v, valV kvs (.inr c) = some v → ∃ k, k < ms.length ∧ v = nv k)
        ⟨v3, v4, kvs, rfl, fun _ _ h _ => h, hd1, hk, hv⟩ (fun j σ H' hj ⟨_, _, _, _, s', _⟩ => ⟨s' _ _ hfrz hde.symm, hj⟩) (fun σ H' ⟨_, _, _, _, s', _⟩ => ⟨s' _ _ hfrz hde.symm, Nat.le_refl _⟩) ?_ ?_
      · rintro j y σ H2 H3 hj ⟨v3, v4, kvs, rfl, s2, hdd, hk, hv⟩ ⟨rfl, k, vv, kq, hkk, rfl, hkq⟩
        obtain ⟨h, c, x, e1, hE⟩ := R.get hkk
        have e1' : k = EKey h c := congrArg (·.1) e1
        subst e1'
        refine ⟨kq, _, rfl, SqT.of hkq, rfl, _, _, rfl, _, _, rfl, rfl, ?_⟩
        refine ⟨_, rfl, _, rfl, _, rfl, d, _, rfl, DPut.k (k := Sum.inr c) hdd (by omega), ?_⟩
        have l1 := length_putK kvs (Sum.inr c : Key) (.int (0 + (i : Nat)))
        refine ⟨_, _, _, rfl, fun b o hb nb => by rw [upd_ne nb]; exact s2 b o hb nb, upd_same, by omega, fun c' v' h' => ?_⟩
        rw [valV_put] at h'
        by_cases ec : (Sum.inr c' : Key) = Sum.inr c
        · rw [if_pos ec] at h'
          exact ⟨i, by omega, by rw [← Option.some.inj h', e0]⟩
        · rw [if_neg ec] at h'
          exact hv c' v' h'
      · rintro σ H2 ⟨v3, v4, kvs, rfl, s2, hdd, hk, hv⟩
        refine ⟨s2 _ _ hfrz hde.symm, _, _, _, kvs, rfl, hback H2 s2, by rw [upd_ne hde]; exact hdd, by omega, hv⟩
    · rintro σ H1 ⟨v2, v3, v4, kvs, rfl, sm, hdd, hk, hv⟩
      exact ⟨_, rfl, q _ d kvs sm hd hdd hv⟩
end
end DL

/-! the law's led and words -/
namespace DL
open PySem L2 DI DO DS

theorem sIx0 (n d k : Nat) (h : k ≤ n) : HT.sIx n d (some (k : Int)) = k := by
  rw [HT.sIx_nat]
  omega
theorem cutL_to {α : Type} (l : List α) (k : Nat) (h : k ≤ l.length) : cutL l none (some (k : Int)) = l.take k := by
  unfold cutL
  rw [sIx0 _ _ _ h]
  rfl
theorem cutL_from {α : Type} (l : List α) (k : Nat) (h : k ≤ l.length) : cutL l (some (k : Int)) none = l.drop k := by
  unfold cutL
  rw [sIx0 _ _ _ h]
  refine List.take_of_length_le ?_
  rw [List.length_drop]
  exact Nat.le_refl _
theorem slA_any {K : PySem.W.Frag} {H : Hp} {a : Addr} {xs : List V} {lo hi : Option Int} {Q : VK} (hT : H a = some (.tup xs)) (h : ∀ t H', Same H H' → H' t = some (.tup (cutV xs lo hi)) → Q (.ref t) H') : rSlA K (.ref a) lo hi H Q :=
  ⟨a, xs, rfl, SqT.of hT, fun w => h a H (Same.refl H) (by
    have e : cutV xs lo hi = xs := by
      unfold cutV
      rw [w.1, w.2, List.drop_zero]
      exact List.take_of_length_le (Nat.le_refl _)
    rw [e]
    exact hT), fun _ p hp => h p _ (same_upd hp) upd_same⟩
theorem catA_any {K : PySem.W.Frag} {H : Hp} {a b : Addr} {xs ys : List V} {Q : VK} (ha : H a = some (.tup xs)) (hb : H b = some (.tup ys)) (hl : xs.length + ys.length ≤ sizeLine) (h : ∀ t H', Same H H' → H' t = some (.tup (xs ++ ys)) → Q (.ref t) H') : rCatA K (.ref a) (.ref b) H Q :=
  ⟨a, b, xs, ys, rfl, rfl, SqT.of ha, SqT.of hb, hl, fun e => h b H (Same.refl H) (by rw [e]; exact hb), fun _ e => h a H (Same.refl H) (by rw [e, List.append_nil]; exact ha), fun _ _ p hp => h p _ (same_upd hp) upd_same⟩
theorem paired_put {α β : Type} {F : α → β → Prop} : ∀ {l1 : List α} {l2 : List β}, Paired F l1 l2 → ∀ {k : Nat} {x : α} {z : β}, l1[k]? = some x → F x z → Paired F l1 (l2.take k ++ [z] ++ l2.drop (k + 1))
  | _, _, .nil, k, x, z, e, _ => by simp at e
  | _, _, .cons r t, 0, x, z, e, h => by
    have e := Option.some.inj e
    subst e
    exact .cons h t
  | _, _, .cons r t, k + 1, x, z, e, h => .cons r (paired_put t (k := k) e h)

section
variable {P : Program} {w : World} {K : PySem.W.Frag} {mg : Str → Option Value} {base : Heap} {CH CC : Addr}

/-! ### _law_led -/
def spLed : Sp := fun vs H Q _ => ∃ (l sp pt : Addr) (as : List Addr) (ms : List Model) (xs : List Nat) (wd : Str), vs = [.ref l, .ref sp, .ref pt] ∧ ModelsAt H l as ms ∧ Fit ms ∧ H sp = some (.tup (xs.map nv)) ∧ Spot ms xs ∧ H pt = some (.tup [.str wd]) ∧
  ∀ H' t (ys : List Nat), Same H H' → H' t = some (.tup (ys.map nv)) → Spot ms ys → Q (.ref t) H'
theorem scLed : FnScope ["_law_models", "_law_spot", "_law_pushes", "_law_owners_here", "_law_word", "_law_k", "_law_there"] ["_law_models", "_law_spot", "_law_pushes"] (defScope sLed) := ⟨rfl, rfl, rfl, by decide +kernel, rfl, by decide +kernel, by decide +kernel⟩
theorem ok_led {f : Addr} {fd : FuncData} (F : L2.Fun K "_law_led" "_law_led" sLed f fd) (cO : Cal P w K mg base 1 "_law_owners" spOwners) : FnOk P w K mg base CX0 2 f fd ["_law_models", "_law_spot", "_law_pushes"] spLed := by
  refine F.ok scLed (fun vs H Q E h => ?_) (fun cdv A outer s H vs Q E hr h => ?_)
  · obtain ⟨l, sp, pt, as, ms, xs, wd, rfl, _⟩ := h
    rfl
  · obtain ⟨l, sp, pt, as, ms, xs, wd, rfl, M, F', hsp, S, hpt, q⟩ := h
    have hu := hu_of hr
    refine ⟨_, pss_cons (ps_set (i := 3) scLed.nd rfl (Or.inl rfl) (pe_c cO hr (by decide) (by rfl) (pa_cons (pv 0) pa_nil)))
      (pss_cons (ps_for PassesOwn.never rfl (pi_tup (pv 2)) (pg_name (i := 4) scLed.nd rfl (Or.inl rfl))
        (pss_one (ps_if (pt_cmp (pc_din hu (pv 4) (pv 3)))
          (pss_cons (ps_set (i := 5) scLed.nd rfl (Or.inl rfl) (pe_dget hu (pv 3) (pv 4) (fun _ _ => rfl)))
          (pss_cons (ps_set (i := 6) scLed.nd rfl (Or.inl rfl) (pe_dget2 hu (pe_ix ix_tup (pe_ix ix_list (pv 0) (pv 5) (fun _ _ => rfl)) pe_int (fun _ _ => rfl)) (pe_tup (pa_cons (pe_ix ix_tup (pv 1) (pv 5) (fun _ _ => rfl)) (pa_cons (pv 4) pa_nil))) (pe_ix ix_tup (pv 1) (pv 5) (fun _ _ => rfl)) ⟨rfl, rfl, rfl, rfl⟩))
          (pss_one (ps_set (i := 1) scLed.nd rfl (Or.inl rfl) (pe_op op_catA (pe_op op_catA (pe_slice sl_tupA (pv 1) po_none (po_some (pv 5))) (pe_tup (pa_cons (pv 6) pa_nil))) (pe_slice sl_tupA (pv 1) (po_some (pe_op op_add (pv 5) pe_int)) po_none)))))) pss_nil)))
      (pss_one (ps_ret (pv 1)))), ?_⟩
    have hal : as.length = ms.length := M.d.length
    have hl72 := F'.len
    have hsz : (4000 : Nat) < sizeLine := by decide
    refine ⟨_, rfl, l, as, ms, rfl, M, F', fun H1 o kvs s1 no ho hkv => ?_⟩
    refine ⟨_, rfl, pt, rfl, ⟨_, SqT.of (s1 _ _ hpt)⟩, ?_⟩
    refine for_tup (K := K) (a := pt) (xs := [V.str wd]) (fun i σ H' => ∃ (t : Addr) (ys : List Nat) (v4 v5 v6 : Option V), σ = [some (.ref l), some (.ref t), some (.ref pt), some (.ref o), v4, v5, v6] ∧ Same H1 H' ∧ H' t = some (.tup (ys.map nv)) ∧ Spot ms ys)
      ⟨sp, xs, none, none, none, rfl, Same.refl _, s1 _ _ hsp, S⟩ (fun i σ H' _ ⟨_, _, _, _, _, _, s', _⟩ => SqT.of (s' _ _ (s1 _ _ hpt))) ?_ ?_
    · rintro i y σ H2 hi ⟨t, ys, v4, v5, v6, rfl, sm, ht, S2⟩
      obtain ⟨wd', _, rfl⟩ := get_map (f := V.str) (l := [wd]) hi
      have hoo := sm _ _ ho
      refine ⟨_, rfl, _, rfl, o, _, rfl, DGet.k (k := Sum.inr wd') hoo, _, rfl, ?_⟩
      cases e : valV kvs (.inr wd') with
      | none => exact iteF ⟨t, ys, _, _, _, rfl, sm, ht, S2⟩
      | some v =>
        obtain ⟨k, hk, rfl⟩ := hkv wd' v e
        refine iteT ?_
        refine ⟨_, rfl, _, rfl, o, nv k, rfl, by rw [← e]; exact DGet.k (k := Sum.inr wd') hoo, ?_⟩
        obtain ⟨m, hm⟩ : ∃ m, ms[k]? = some m := ⟨_, List.getElem?_eq_getElem hk⟩
        obtain ⟨a, ha⟩ : ∃ a, as[k]? = some a := ⟨_, List.getElem?_eq_getElem (by omega)⟩
        obtain ⟨m', hm', hma⟩ := paired_get M.d ha
        rw [hm] at hm'
        cases hm'
        obtain ⟨x, hx, hxlt⟩ := paired_get S2 hm
        have sH := s1.trans sm
        obtain ⟨ed, ks, h1, h2, R⟩ := (hma.mono (Le.of_same sH)).ex
        have G := F'.good m (List.mem_of_getElem? hm)
        have hata : atI (as.map V.ref) ((k : Nat) : Int) = some (V.ref a) := atI_nat (by rw [List.getElem?_map, ha]; rfl)
        have hatx : atI (ys.map nv) ((k : Nat) : Int) = some (nv x) := atI_nat (by rw [List.getElem?_map, hx]; rfl)
        have hyl : ms.length = ys.length := S2.length
        dsimp only
        refine seq_cut (t := tAsg _ _) (fun σ' H' => ∃ z : Nat, σ' = [some (.ref l), some (.ref t), some (.ref pt), some (.ref o), some (.str wd'), some (nv k), some (nv z)] ∧ Same H1 H' ∧ H' t = some (.tup (ys.map nv)) ∧ z < m.N) (fun NX hNX => ?_) ?_
        · refine ⟨_, rfl, _, rfl, l, _, _, _, rfl, rfl, SqL.of (M.same sH).l, hata, a, _, 1, _, rfl, rfl, SqT.of h1, atI_nat (j := 1) rfl, ed, rfl, .inr ⟨_, .inl h2⟩, _, rfl, _, rfl, t, _, _, _, rfl, rfl, SqT.of ht, hatx, _, rfl, by show 2 ≤ sizeLine; decide, fun p hp => ?_⟩
          refine ⟨_, rfl, _, rfl, t, _, _, _, rfl, rfl, SqT.of (at_in ht hp), hatx, _, DGet.t (k := EKey x wd') (b := p) (at_in h2 hp) upd_same, ?_⟩
          rw [val_getN R]
          refine hNX _ _ ⟨(m.E x wd').getD x, rfl, sm.trans (same_upd hp), at_in ht hp, ?_⟩
          cases hE : m.E x wd' with
          | none => exact hxlt
          | some z => exact (G.g.lt _ _ _ hE).2
        clear sH sm ht hoo h1 h2
        rintro σ H3 ⟨z, rfl, sm, ht, hz⟩
        have hkl : k < ys.length := by omega
        have c1 : cutV (ys.map nv) none (some (k : Int)) = (ys.take k).map nv := by rw [cutV_map, cutL_to _ _ (by omega)]
        have c2 : cutV (ys.map nv) (some (((k : Nat) : Int) + 1)) none = (ys.drop (k + 1)).map nv := by
          have := cutL_from ys (k + 1) (by omega)
          rw [cutV_map, ← this]
          rfl
        refine ⟨_, rfl, _, rfl, _, rfl, slA_any ht fun t1 H4 s4 e4 => ?_⟩
        rw [c1] at e4
        refine ⟨_, rfl, by show 1 ≤ sizeLine; decide, fun t2 h2 => ?_⟩
        have l1 : ((ys.take k).map nv).length + [nv z].length ≤ sizeLine := by
          rw [List.length_map, List.length_take]
          show _ + 1 ≤ _
          omega
        refine catA_any (at_in e4 h2) upd_same l1 fun t3 H5 s5 e5 => ?_
        have s35 : Same H3 H5 := s4.trans ((same_upd h2).trans s5)
        refine ⟨_, rfl, _, rfl, _, _, rfl, rfl, _, rfl, ?_⟩
        dsimp only [tNoPart]
        refine slA_any (lo := some (((k : Nat) : Int) + 1)) (hi := none) (s35 _ _ ht) fun t4 H6 s6 e6 => ?_
        rw [c2] at e6
        have l2 : ((ys.take k).map nv ++ [nv z]).length + ((ys.drop (k + 1)).map nv).length ≤ sizeLine := by
          rw [List.length_append, List.length_map, List.length_take, List.length_map, List.length_drop]
          show _ + 1 + _ ≤ _
          omega
        refine catA_any (s6 _ _ e5) e6 l2 fun t5 H7 s7 e7 => ?_
        refine ⟨t5, ys.take k ++ [z] ++ ys.drop (k + 1), _, _, _, rfl, sm.trans (s35.trans (s6.trans s7)), ?_, paired_put S2 hm hz⟩
        rw [e7, List.map_append, List.map_append]
        rfl
    · rintro σ H2 ⟨t, ys, v4, v5, v6, rfl, sm, ht, S2⟩
      exact ⟨_, rfl, q H2 t ys (s1.trans sm) ht S2⟩

/-! ### _law_words -/
abbrev letters : Str := "abcdefghijklmnopqrstuvwxyz"
theorem letter_at (i : Nat) (h : i < 26) : atI letters.cps.toList (i : Int) = some (97 + i) := by
  have q : ∀ k : Fin 26, letters.cps.toList[k.val]? = some (97 + k.val) := by decide +kernel
  exact atI_nat (q ⟨i, h⟩)
def menu : List Str := ["push", "open", "shut", "drop", "undo", "house", "hall", "lots", "pair", "chain", "row", "walk", "repeat", "free", "bound", "ok"]
theorem menu_col : ∀ c ∈ menu, Colour c := by
  have q : ∀ c ∈ menu, 1 ≤ c.length ∧ c.length ≤ 6 ∧ ∀ x ∈ c.cps.toList, 97 ≤ x ∧ x ≤ 122 := by decide +kernel
  exact q
theorem menu_nd : menu.Nodup := by decide +kernel
/-- what _law_words may give -/
structure WordsOk (ws : List Str) : Prop where
  len : ws.length = 15
  nd : ws.Nodup
  col : ∀ c ∈ ws, Colour c
theorem words_menu (f : Nat) : ∃ ws, WordsOk ws ∧ ∀ k, k < 15 → ∃ c, ws[k]? = some c ∧ menu[(f + 3 * k) % 16]? = some c := by
  have hm : menu.length = 16 := rfl
  refine ⟨(List.range 15).map fun k => menu[(f + 3 * k) % 16]'(by rw [hm]; exact Nat.mod_lt _ (by decide)), ⟨by rw [List.length_map, List.length_range], ?_, ?_⟩, ?_⟩
  · refine List.pairwise_map.mpr (List.pairwise_lt_range.imp_of_mem fun {a b} ha hb h e => ?_)
    have ha := List.mem_range.mp ha
    have hb := List.mem_range.mp hb
    have := (List.getElem_inj menu_nd).mp e
    omega
  · intro c hc
    obtain ⟨k, _, rfl⟩ := List.mem_map.mp hc
    exact menu_col _ (List.getElem_mem _)
  · intro k hk
    refine ⟨menu[(f + 3 * k) % 16]'(by rw [hm]; exact Nat.mod_lt _ (by decide)), ?_, List.getElem?_eq_getElem _⟩
    rw [List.getElem?_map, List.getElem?_range hk]
    rfl
open SX in
theorem words_stem (cs : List Nat) (a b : Nat) (hl : cs.length ≤ 5) (hc : ∀ x ∈ cs, 97 ≤ x ∧ x ≤ 122) : WordsOk ((List.range 15).map fun k => S (cs.take a ++ [97 + (b + 5 * k) % 26] ++ cs.drop a)) := by
  refine ⟨by rw [List.length_map, List.length_range], ?_, ?_⟩
  · refine List.pairwise_map.mpr (List.pairwise_lt_range.imp_of_mem fun {x y} hx hy h e => ?_)
    have hx := List.mem_range.mp hx
    have hy := List.mem_range.mp hy
    have e := List.append_cancel_left (List.append_cancel_right (S_inj e))
    have e : 97 + (b + 5 * x) % 26 = 97 + (b + 5 * y) % 26 := List.head_eq_of_cons_eq e
    omega
  · intro c hc'
    obtain ⟨k, _, rfl⟩ := List.mem_map.mp hc'
    have hlen : (cs.take a ++ [97 + (b + 5 * k) % 26] ++ cs.drop a).length = cs.length + 1 := by
      rw [List.length_append, List.length_append, List.length_take, List.length_drop, List.length_singleton]
      omega
    refine ⟨by rw [S_len, hlen]; omega, by rw [S_len, hlen]; omega, fun x hx => ?_⟩
    have hx : x ∈ cs.take a ++ [97 + (b + 5 * k) % 26] ++ cs.drop a := hx
    rcases List.mem_append.mp hx with z | z
    · rcases List.mem_append.mp z with z | z
      · exact hc x (List.mem_of_mem_take z)
      · rw [List.mem_singleton.mp z]
        omega
    · exact hc x (List.mem_of_mem_drop z)
open SX in
theorem join_one (cs : List Nat) : Txt.join "" ((cs.map fun c => (⟨#[c]⟩ : Str))) = S cs := by
  have e1 : (cs.map fun c => (⟨#[c]⟩ : Str)) = (cs.map fun c => [c]).map S := by
    rw [List.map_map]
    rfl
  have e2 : ("" : Str) = S [] := by decide +kernel
  rw [e1, e2, join_S]
  have e3 : ∀ cs : List Nat, TL.joinL [] (cs.map fun c => [c]) = cs := by
    intro cs
    induction cs with
    | nil => rfl
    | cons x r ih =>
      cases r with
      | nil => rfl
      | cons y r =>
        show [x] ++ ([] ++ TL.joinL [] ((y :: r).map fun c => [c])) = x :: y :: r
        rw [ih]
        rfl
  rw [e3]
open SX in
theorem cutS_to (cs : List Nat) (k : Nat) (h : k ≤ cs.length) : cutS (S cs) none (some (k : Int)) = S (cs.take k) := by
  unfold cutS
  have e : (S cs).length = cs.length := S_len cs
  rw [sIx0 _ _ _ (by rw [e]; exact h)]
  rfl
open SX in
theorem cutS_from (cs : List Nat) (k : Nat) (h : k ≤ cs.length) : cutS (S cs) (some (k : Int)) none = S (cs.drop k) := by
  unfold cutS
  have e : (S cs).length = cs.length := S_len cs
  rw [sIx0 _ _ _ (by rw [e]; exact h), HT.sIx_none, e]
  show S ((cs.drop k).take (cs.length - k)) = S (cs.drop k)
  rw [List.take_of_length_le (by rw [List.length_drop]; exact Nat.le_refl _)]
end
end DL

/-! the law's words -/
namespace DL
open PySem L2 DI DO DS SX

section
variable {P : Program} {w : World} {K : PySem.W.Frag} {mg : Str → Option Value} {base : Heap} {CH CC : Addr}
def spWords : Sp := fun vs H Q _ => ∃ p : Addr, vs = [.ref p, .int 15] ∧ Purse H p ∧ ∀ ws H' q, WordsOk ws → Kp p H H' → H q = none → H' q = some (.lst (ws.map V.str)) → Q (.ref q) H'
theorem scWords : FnScope ["_law_purse_here", "_law_size", "_law_letters", "_law_menu", "_law_first", "_law_way", "_law_stem", "_law_at", "_law_begin", "_law_k"] ["_law_purse_here", "_law_size"] (defScope sWords) := ⟨rfl, rfl, rfl, by decide +kernel, rfl, by decide +kernel, by decide +kernel⟩
set_option maxHeartbeats 2000000 in
theorem ok_words {f : Addr} {fd : FuncData} (F : L2.Fun K "_law_words" "_law_words" sWords f fd) (T : Txt K mg CH CC) (cD : Cal P w K mg base 1 "_law_draw" spDraw) : FnOk P w K mg base CX0 2 f fd ["_law_purse_here", "_law_size"] spWords := by
  refine F.ok scWords (fun vs H Q E h => ?_) (fun cdv A outer s H vs Q E hr h => ?_)
  · obtain ⟨p, rfl, _⟩ := h
    rfl
  · obtain ⟨p, rfl, hp, q⟩ := h
    refine ⟨_, pss_cons (ps_set (i := 2) scWords.nd rfl (Or.inr rfl) pe_str)
      (pss_cons (ps_set (i := 3) scWords.nd rfl (Or.inr rfl) (pe_lst (pa_cons pe_str (pa_cons pe_str (pa_cons pe_str (pa_cons pe_str (pa_cons pe_str (pa_cons pe_str (pa_cons pe_str (pa_cons pe_str (pa_cons pe_str (pa_cons pe_str (pa_cons pe_str (pa_cons pe_str (pa_cons pe_str (pa_cons pe_str (pa_cons pe_str (pa_cons pe_str pa_nil))))))))))))))))))
      (pss_cons (ps_asg (pe_tup (pa_cons (pe_c cD hr (by decide) (by rfl) (pa_cons (pv 0) (pa_cons pe_int pa_nil))) (pa_cons (pe_c cD hr (by decide) (by rfl) (pa_cons (pv 0) (pa_cons pe_int pa_nil))) pa_nil)))
        (pg_tup rfl (pgs_cons (pg_name (i := 4) scWords.nd rfl (Or.inr rfl)) (pgs_cons (pg_name (i := 5) scWords.nd rfl (Or.inl rfl)) pgs_nil))))
      (pss_cons (ps_if (pt_cmpR op_eq (pv 5) pe_int (nomark _)) (pss_one (ps_ret (pe_lc (own := [("_law_k", 9)]) (g := gName 9) (tt := tYes) rfl scWords.nd (pi_range1 rfl T.zrange (pa_cons (pv 1) pa_nil)) (blkOk_by (N := ["_law_purse_here", "_law_size", "_law_letters", "_law_menu", "_law_first", "_law_way", "_law_stem", "_law_at", "_law_begin", "_law_k"]) (sc := defScope sWords) (by decide +kernel)) (fun _ _ _ _ _ => pg_name (i := 9) scWords.nd rfl (Or.inl rfl)) (fun _ _ _ _ _ => pts_nil)
          (fun _ _ _ _ _ => pe_ix (r := rIxL K) ix_list (pv 3) (pe_op op_mod (pe_op op_add (pv 4) (pe_op op_mul pe_int (pv 9))) pe_int) (fun _ _ => rfl))))) pss_nil)
      (pss_cons (ps_set (i := 6) scWords.nd rfl (Or.inr rfl) (pe_join pe_str (pe_lc (own := [("_law_k", 9)]) (g := gName 9) (tt := tYes) rfl scWords.nd (pi_range1 rfl T.zrange (pa_cons (pe_c cD hr (by decide) (by rfl) (pa_cons (pv 0) (pa_cons pe_int pa_nil))) pa_nil)) (blkOk_by (N := ["_law_purse_here", "_law_size", "_law_letters", "_law_menu", "_law_first", "_law_way", "_law_stem", "_law_at", "_law_begin", "_law_k"]) (sc := defScope sWords) (by decide +kernel)) (fun _ _ _ _ _ => pg_name (i := 9) scWords.nd rfl (Or.inl rfl)) (fun _ _ _ _ _ => pts_nil)
          (fun _ _ _ _ _ => pe_ix ix_str (pv 2) (pe_c cD hr (by decide) (by rfl) (pa_cons (pv 0) (pa_cons pe_int pa_nil))) (fun _ _ => rfl)))))
      (pss_cons (ps_asg (pe_tup (pa_cons (pe_c cD hr (by decide) (by rfl) (pa_cons (pv 0) (pa_cons (pe_op op_add (pe_callB call_len_str (by rfl) T.zlen boot_len (pa_cons (pv 6) pa_nil)) pe_int) pa_nil))) (pa_cons (pe_c cD hr (by decide) (by rfl) (pa_cons (pv 0) (pa_cons pe_int pa_nil))) pa_nil)))
        (pg_tup rfl (pgs_cons (pg_name (i := 7) scWords.nd rfl (Or.inr rfl)) (pgs_cons (pg_name (i := 8) scWords.nd rfl (Or.inr rfl)) pgs_nil))))
      (pss_one (ps_ret (pe_lc (own := [("_law_k", 9)]) (g := gName 9) (tt := tYes) rfl scWords.nd (pi_range1 rfl T.zrange (pa_cons (pv 1) pa_nil)) (blkOk_by (N := ["_law_purse_here", "_law_size", "_law_letters", "_law_menu", "_law_first", "_law_way", "_law_stem", "_law_at", "_law_begin", "_law_k"]) (sc := defScope sWords) (by decide +kernel)) (fun _ _ _ _ _ => pg_name (i := 9) scWords.nd rfl (Or.inl rfl)) (fun _ _ _ _ _ => pts_nil)
          (fun _ _ _ _ _ => pe_op op_add_str (pe_op op_add_str (pe_slice sl_str (pv 6) po_none (po_some (pv 7))) (pe_ix ix_str (pv 2) (pe_op op_mod (pe_op op_add (pv 8) (pe_op op_mul pe_int (pv 9))) pe_int) (fun _ _ => rfl))) (pe_slice sl_str (pv 6) (po_some (pv 7)) po_none)))))))))), ?_⟩
    have hsz : (4000 : Nat) < sizeLine := by decide
    have hls : letters.length ≤ sizeLine := by decide
    refine ⟨by show 16 ≤ sizeLine; decide, fun mn hmn => ?_⟩
    have k0 : Kp p H (upd H mn (.lst (menu.map V.str))) := (Kp.refl hp).up hp hmn
    have hmp := hp.dne hmn
    dsimp only
    refine seq_cut (t := tAsg _ _) (fun σ' H' => ∃ fi wy : Nat, σ' = [some (.ref p), some (.int 15), some (.str letters), some (.ref mn), some (nv fi), some (nv wy), none, none, none, none] ∧ Kp p H H' ∧ H' mn = some (.lst (menu.map V.str))) (fun NX hNX => ?_) ?_
    · refine ⟨_, rfl, p, 16, rfl, k0.pur, by decide, by decide, fun fi H1 hfi k1 => ?_⟩
      refine ⟨_, rfl, p, 4, rfl, k1.pur, by decide, by decide, fun wy H2 hwy k2 => ?_⟩
      refine ⟨by show 2 ≤ sizeLine; decide, fun t ht => ⟨t, _, rfl, SqT.of upd_same, rfl, _, _, rfl, _, _, rfl, rfl, hNX _ _ ⟨fi, wy, rfl, ?_, ?_⟩⟩⟩
      · have k := k0.trans (k1.trans k2)
        exact k.up hp (k.free ht)
      · exact at_in (k2.keep _ _ (k1.keep _ _ upd_same hmp) hmp) ht
    clear k0
    rintro σ H1 ⟨fi, wy, rfl, k, hm⟩
    refine ⟨_, rfl, rfl, _, rfl, ?_⟩
    refine ite2 (fun _ => ?_) (fun _ => ?_)
    · obtain ⟨ws, W, hw⟩ := words_menu fi
      refine ⟨_, rfl, 15, rfl, by decide, by decide, fun D hD => ?_⟩
      refine lc_range (lo := 0) (n := 15) (fun i H' => Same H1 H' ∧ H' D = some (.lst ((ws.take i).map V.str))) ⟨same_upd hD, upd_same⟩ ?_ ?_
      · rintro i H2 hi ⟨sm, hd⟩
        obtain ⟨c, hc, hmc⟩ := hw i hi
        refine ⟨rfl, tyes ?_⟩
        have hat : atI (menu.map V.str) (((fi : Int) + 3 * (0 + (i : Nat))) % 16) = some (V.str c) := by
          rw [show ((fi : Int) + 3 * (0 + ((i : Nat) : Int))) % 16 = (((fi + 3 * i) % 16 : Nat) : Int) by omega]
          exact atI_nat (by rw [List.getElem?_map, hmc]; rfl)
        refine ⟨_, rfl, _, rfl, _, rfl, _, _, rfl, rfl, .inl ⟨by decide, by decide⟩, _, _, rfl, rfl, _, _, rfl, rfl, by show (0 : Int) < 16; decide, mn, _, _, V.str c, rfl, rfl, SqL.of (sm _ _ hm), hat, ?_⟩
        refine ⟨_, hd, by rw [List.length_map, List.length_take]; omega, same_in sm hD, ?_⟩
        rw [upd_same, List.take_add_one, hc, List.map_append]
        rfl
      · rintro H2 ⟨sm, hd⟩
        rw [List.take_of_length_le (by rw [W.len]; exact Nat.le_refl _)] at hd
        have := k.free hD
        exact q ws H2 D W (k.same sm) this hd
    · dsimp only [tNext]
      refine seq_cut (t := tAsg _ _) (fun σ' H' => ∃ cs : List Nat, σ' = [some (.ref p), some (.int 15), some (.str letters), some (.ref mn), some (nv fi), some (nv wy), some (.str (S cs)), none, none, none] ∧ Kp p H H' ∧ cs.length ≤ 5 ∧ ∀ x ∈ cs, 97 ≤ x ∧ x ≤ 122) (fun NX hNX => ?_) ?_
      · refine ⟨⟨_, rfl⟩, _, rfl, p, 6, rfl, k.pur, by decide, by decide, fun n H2 hn k2 => ?_⟩
        refine ⟨(n : Int), rfl, by omega, by omega, fun D hD => ?_⟩
        have hpD := (k.trans k2).free hD
        have hDp := hp.dne hpD
        refine lc_range (lo := 0) (n := (n : Int).toNat) (fun i H' => Kp p H H' ∧ ∃ cs : List Nat, H' D = some (.lst ((cs.map fun c => (⟨#[c]⟩ : Str)).map V.str)) ∧ cs.length = i ∧ ∀ x ∈ cs, 97 ≤ x ∧ x ≤ 122) ⟨(k.trans k2).up hp hpD, [], upd_same, rfl, fun x h => nomatch h⟩ ?_ ?_
        · rintro i H3 hi ⟨k3, cs, hd, hcl, hcs⟩
          refine ⟨rfl, tyes ?_⟩
          refine ⟨_, rfl, _, rfl, p, 26, rfl, k3.pur, by decide, by decide, fun r H4 hr4 k4 => ?_⟩
          refine ⟨letters, _, 97 + r, rfl, rfl, hls, letter_at r (by omega), ?_⟩
          refine ⟨_, k4.keep _ _ hd hDp, by rw [List.length_map, List.length_map]; omega, (k3.trans k4).up hp hpD, cs ++ [97 + r], by rw [upd_same, List.map_append, List.map_append]; rfl, by rw [List.length_append, List.length_singleton, hcl], fun x hx => ?_⟩
          rcases List.mem_append.mp hx with z | z
          · exact hcs x z
          · rw [List.mem_singleton.mp z]
            omega
        · rintro H3 ⟨k3, cs, hd, hcl, hcs⟩
          have hcl5 : cs.length ≤ 5 := by omega
          refine ⟨_, D, _, rfl, rfl, .inl (SqL.of hd), ?_, ?_⟩
          · have e : ∀ cs : List Nat, ((cs.map fun c => (⟨#[c]⟩ : Str)).map (·.length)).sum = cs.length := by
              intro cs
              induction cs with
              | nil => rfl
              | cons x r ih => rw [List.map_cons, List.map_cons, List.sum_cons, ih, List.length_cons]; show 1 + _ = _; omega
            rw [e]
            show cs.length + _ * 0 ≤ _
            omega
          · rw [join_one]
            exact hNX _ _ ⟨cs, rfl, k3, hcl5, hcs⟩
      clear hm k
      rintro σ H2 ⟨cs, rfl, k, hcl, hcs⟩
      have hSl : (S cs).length = cs.length := S_len cs
      refine seq_cut (t := tAsg _ _) (fun σ' H' => ∃ a b : Nat, σ' = [some (.ref p), some (.int 15), some (.str letters), some (.ref mn), some (nv fi), some (nv wy), some (.str (S cs)), some (nv a), some (nv b), none] ∧ Kp p H H' ∧ a ≤ cs.length) (fun NX hNX => ?_) ?_
      · refine ⟨_, rfl, _, rfl, _, rfl, by rw [hSl]; omega, _, _, rfl, rfl, p, _, rfl, k.pur, by rw [hSl]; omega, by rw [hSl]; omega, fun a H3 ha k3 => ?_⟩
        rw [hSl] at ha
        refine ⟨_, rfl, p, 26, rfl, k3.pur, by decide, by decide, fun b H4 hb k4 => ?_⟩
        refine ⟨by show 2 ≤ sizeLine; decide, fun t ht => ⟨t, _, rfl, SqT.of upd_same, rfl, _, _, rfl, _, _, rfl, rfl, hNX _ _ ⟨a, b, rfl, ?_, by omega⟩⟩⟩
        have k' := k.trans (k3.trans k4)
        exact k'.up hp (k'.free ht)
      clear k
      rintro σ H3 ⟨a, b, rfl, k, ha⟩
      have W := words_stem cs a b hcl hcs
      refine ⟨_, rfl, 15, rfl, by decide, by decide, fun D hD => ?_⟩
      refine lc_range (lo := 0) (n := 15) (fun i H' => Same H3 H' ∧ H' D = some (.lst (((List.range i).map fun k => S (cs.take a ++ [97 + (b + 5 * k) % 26] ++ cs.drop a)).map V.str))) ⟨same_upd hD, upd_same⟩ ?_ ?_
      · rintro i H4 hi ⟨sm, hd⟩
        refine ⟨rfl, tyes ?_⟩
        have hat : atI letters.cps.toList (((b : Int) + 5 * (0 + (i : Nat))) % 26) = some (97 + (b + 5 * i) % 26) := by
          rw [show ((b : Int) + 5 * (0 + ((i : Nat) : Int))) % 26 = (((b + 5 * i) % 26 : Nat) : Int) by omega]
          exact letter_at _ (by omega)
        have h1 : (S (cs.take a)).length ≤ 5 := by rw [S_len, List.length_take]; omega
        have h2 : (S (cs.drop a)).length ≤ 5 := by rw [S_len, List.length_drop]; omega
        have c1 := cutS_to cs a ha
        have c2 := cutS_from cs a ha
        refine ⟨_, rfl, _, rfl, _, rfl, S cs, rfl, by rw [hSl]; omega, ?_⟩
        refine ⟨_, rfl, _, rfl, _, rfl, _, _, rfl, rfl, .inl ⟨by decide, by decide⟩, _, _, rfl, rfl, _, _, rfl, rfl, by show (0 : Int) < 26; decide, letters, _, _, rfl, rfl, hls, hat, ?_⟩
        refine ⟨_, _, rfl, rfl, by rw [c1]; show _ + 1 ≤ _; omega, ?_⟩
        refine ⟨_, rfl, _, rfl, _, rfl, ?_⟩
        refine ⟨S cs, rfl, by rw [hSl]; omega, ?_⟩
        refine ⟨_, _, rfl, rfl, by rw [c1, c2, PySem.Str.length_append]; show _ + 1 + _ ≤ _; omega, ?_⟩
        refine ⟨_, hd, by rw [List.length_map, List.length_map, List.length_range]; omega, same_in sm hD, ?_⟩
        rw [upd_same, List.range_succ, map_snoc, map_snoc, c1, c2, ← S_cat, ← S_cat]
      · rintro H4 ⟨sm, hd⟩
        exact q _ H4 D W (k.same sm) (k.free hD) hd
end
end DL

/-! the law's part -/
namespace DL
open PySem L2 DI DO DS DD

/-- pairs of a hall and a colour, as tuples -/
abbrev PairAt (H : Hp) (t : Addr) (q : Nat × Str) : Prop := H t = some (.tup [nv q.1, .str q.2])
def encP (q : Nat × Str) : PyData := .tuple [.int (q.1 : Int), .str q.2]
theorem encs_ok : ∀ (qs : List (Nat × Str)), (∀ q ∈ qs, Colour q.2) → PyData.canLayAll0 (qs.map encP) = true ∧ PyData.depthAll (qs.map encP) ≤ 1
  | [], _ => ⟨rfl, Nat.zero_le _⟩
  | q :: r, h => by
    obtain ⟨h1, h2⟩ := encs_ok r fun x hx => h x (List.mem_cons_of_mem _ hx)
    have hs : PyData.strOk q.2 = true := by
      unfold PyData.strOk
      rw [← Array.all_toList]
      refine List.all_eq_true.mpr fun x hx => decide_eq_true ?_
      have := (h q List.mem_cons_self).2.2 x hx
      omega
    constructor
    · simp only [List.map_cons, PyData.canLayAll0, encP, PyData.canLay0, hs, h1, Bool.and_self]
    · simp only [List.map_cons, PyData.depthAll, encP, PyData.depth]
      omega
theorem ne_nil {K : PySem.W.Frag} {H : Hp} {f z : Addr} {fs : List Addr} {qs : List (Nat × Str)} {Q : VK} (hf : H f = some (.lst (fs.map V.ref))) (hz : H z = some (.lst [])) (hq : Paired (PairAt H) fs qs) (hc : ∀ q ∈ qs, Colour q.2) (h1 : qs = [] → Q (.bl false) H) (h2 : qs ≠ [] → Q (.bl true) H) : rNeD K (.ref f) (.ref z) H Q := by
  have ha : DpAll K H (fs.map V.ref) (qs.map encP) := by
    clear hf hc h1 h2
    induction hq with
    | nil => exact .nil
    | cons h _ ih => exact .cons (.tup (SqT.of h) (.cons (.int _) (.cons (.str _) .nil))) ih
  obtain ⟨c1, c2⟩ := encs_ok qs hc
  refine ⟨.list (qs.map encP), .list [], .lst (SqL.of hf) ha, .lst (SqL.of hz) .nil, ?_, rfl, ?_⟩
  · unfold SeqAt.shaped
    rw [Bool.and_eq_true]
    refine ⟨by simp only [PyData.canLay0]; exact c1, decide_eq_true ?_⟩
    simp only [PyData.depth]
    omega
  · cases qs with
    | nil => exact h1 rfl
    | cons q r => exact h2 (fun z => by cases z)

abbrev sg (p : Addr) (most : Int) (wl : Addr) (wd : Str) (N : Nat) (e : Addr) (v6 v7 v8 v9 v10 v11 : Option V) : L2.St := [some (.ref p), some (.int most), some (.ref wl), some (.str wd), some (nv N), some (.ref e), v6, v7, v8, v9, v10, v11]
theorem pairs_mono {H H' : Hp} (s : Le H H') {ts : List Addr} {qs : List (Nat × Str)} (h : Paired (PairAt H) ts qs) : Paired (PairAt H') ts qs := Paired.mapP h fun t _ e => s t _ e trivial
theorem Le.lst {H : Hp} {D : Addr} {xs : List V} {o : HO} (h : H D = some (.lst xs)) : Le H (upd H D o) := fun b u e n => by
  have : b ≠ D := fun z => by
    rw [z, h] at e
    rw [← Option.some.inj e] at n
    exact n
  rw [upd_ne this]
  exact e
theorem ints_ne (x y : Int) {t : HO} (h : NL t) : t ≠ .lst [.int x, .int y] := fun z => by
  rw [z] at h
  exact h
/-- the pairs that are free -/
def FreeQ (N : Nat) (ws : List Str) (E : Ends) (qs : List (Nat × Str)) : Prop := ∀ q ∈ qs, q.1 < N ∧ q.2 ∈ ws ∧ E q.1 q.2 = none
theorem FreeQ.append {N : Nat} {ws : List Str} {E : Ends} {a b : List (Nat × Str)} (h1 : FreeQ N ws E a) (h2 : FreeQ N ws E b) : FreeQ N ws E (a ++ b) := fun q hq => by
  rcases List.mem_append.mp hq with z | z
  · exact h1 q z
  · exact h2 q z
theorem paired_app {α β : Type} {F : α → β → Prop} {a : List α} {b : List β} (h1 : Paired F a b) : ∀ {c : List α} {d : List β}, Paired F c d → Paired F (a ++ c) (b ++ d) := by
  induction h1 with
  | nil => exact fun h => h
  | cons h _ ih => exact fun h2 => .cons h (ih h2)

section
variable {P : Program} {w : World} {K : PySem.W.Frag} {mg : Str → Option Value} {base : Heap} {CH CC : Addr}
def spPart : Sp := fun vs H Q _ => ∃ (p wl : Addr) (most : Int) (ws : List Str), vs = [.ref p, .int most, .ref wl] ∧ Purse H p ∧ H wl = some (.lst (ws.map V.str)) ∧ 0 < ws.length ∧ ws.length ≤ 15 ∧ (∀ c ∈ ws, Colour c) ∧ 2 ≤ most ∧ most ≤ 8 ∧
  ∀ (H' : Hp) (q : Addr) (N : Nat) (E : Ends), Kp p H H' → H q = none → ModelAt H' q ⟨N, ws, E⟩ → Dm.House N (· ∈ ws) E → (N : Int) ≤ most → Q (.ref q) H'
theorem scPart : FnScope ["_law_purse_here", "_law_most", "_law_words_here", "_law_word", "_law_size", "_law_ends", "_law_turn", "_law_free", "_law_hall", "_law_item", "_law_low", "_law_high"] ["_law_purse_here", "_law_most", "_law_words_here"] (defScope sPart) := ⟨rfl, rfl, rfl, by decide +kernel, rfl, by decide +kernel, by decide +kernel⟩
set_option maxHeartbeats 4000000 in
theorem ok_part {f : Addr} {fd : FuncData} (F : L2.Fun K "_law_part" "_law_part" sPart f fd) (T : Txt K mg CH CC) (cD : Cal P w K mg base 1 "_law_draw" spDraw) : FnOk P w K mg base CX0 2 f fd ["_law_purse_here", "_law_most", "_law_words_here"] spPart := by
  refine F.ok scPart (fun vs H Q E h => ?_) (fun cdv A outer s H vs Q E hr h => ?_)
  · obtain ⟨p, wl, most, ws, rfl, _⟩ := h
    rfl
  · obtain ⟨p, wl, most, ws, rfl, hp, hwl, hw0, hw15, hcol, hm2, hm8, q⟩ := h
    have hu := hu_of hr
    refine ⟨_, pss_cons (ps_set (i := 3) scPart.nd rfl (Or.inl rfl) (pe_ix ix_list (pv 2) (pe_c cD hr (by decide) (by rfl) (pa_cons (pv 0) (pa_cons (pe_callB call_len_seq (by rfl) T.zlen boot_len (pa_cons (pv 2) pa_nil)) pa_nil))) (fun _ _ => rfl)))
      (pss_cons (ps_asg (pe_tup (pa_cons pe_int (pa_cons (pe_dispT hu (pps_cons (pe_tup (pa_cons pe_int (pa_cons (pv 3) pa_nil))) pe_int (pps_cons (pe_tup (pa_cons pe_int (pa_cons (pv 3) pa_nil))) pe_int pps_nil)) (by rfl) (by rfl) (fun z => by cases z) (by decide)) pa_nil)))
        (pg_tup rfl (pgs_cons (pg_name (i := 4) scPart.nd rfl (Or.inl rfl)) (pgs_cons (pg_name (i := 5) scPart.nd rfl (Or.inr rfl)) pgs_nil))))
      (pss_cons (ps_for PassesOwn.never rfl (pi_range1 rfl T.zrange (pa_cons (pe_c cD hr (by decide) (by rfl) (pa_cons (pv 0) (pa_cons (pe_op op_sub (pv 1) pe_int) pa_nil))) pa_nil)) (pg_name (i := 6) scPart.nd rfl (Or.inl rfl))
        (pss_cons (ps_set (i := 7) scPart.nd rfl (Or.inl rfl) (pe_lst pa_nil))
        (pss_cons (ps_for PassesOwn.never rfl (pi_range1 rfl T.zrange (pa_cons (pv 4) pa_nil)) (pg_name (i := 8) scPart.nd rfl (Or.inr rfl))
          (pss_one (ps_expr (pe_bm PySem.F.plainAttrs_list PySem.F.slot_list_extend PySem.F.type_list_extend mt_extend (pv 7) (pa_cons
            (pe_lc (own := [("_law_item", 9)]) (g := gName 9) rfl scPart.nd (pi_list (pv 2)) (blkOk_by (N := ["_law_purse_here", "_law_most", "_law_words_here", "_law_word", "_law_size", "_law_ends", "_law_turn", "_law_free", "_law_hall", "_law_item", "_law_low", "_law_high"]) (sc := defScope sPart) (by decide +kernel)) (fun _ _ _ _ _ => pg_name (i := 9) scPart.nd rfl (Or.inl rfl))
              (fun _ _ _ _ _ => pts_one (pt_cmp (pc_dnotin hu (pe_tup (pa_cons (pv 8) (pa_cons (pv 9) pa_nil))) (pv 5)) rfl)) (fun _ _ _ _ _ => pe_tup (pa_cons (pv 8) (pa_cons (pv 9) pa_nil)))) pa_nil)))))
        (pss_one (ps_if (pt_cmpR (op_neD hr.units) (pv 7) (pe_lst pa_nil) (nomark _))
          (pss_cons (ps_asg (pe_ix ix_list (pv 7) (pe_c cD hr (by decide) (by rfl) (pa_cons (pv 0) (pa_cons (pe_callB call_len_seq (by rfl) T.zlen boot_len (pa_cons (pv 7) pa_nil)) pa_nil))) (fun _ _ => rfl))
            (pg_tup rfl (pgs_cons (pg_name (i := 8) scPart.nd rfl (Or.inr rfl)) (pgs_cons (pg_name (i := 9) scPart.nd rfl (Or.inl rfl)) pgs_nil))))
          (pss_cons (ps_dput hu (pv 5) (pe_tup (pa_cons (pv 8) (pa_cons (pv 9) pa_nil))) (pv 4) rfl)
          (pss_cons (ps_dput hu (pv 5) (pe_tup (pa_cons (pv 4) (pa_cons (pv 9) pa_nil))) (pv 8) rfl)
          (pss_one (ps_set (i := 4) scPart.nd rfl (Or.inl rfl) (pe_op op_add (pv 4) pe_int)))))) pss_nil)))))
      (pss_cons (ps_for PassesOwn.never rfl (pi_range1 rfl T.zrange (pa_cons (pe_c cD hr (by decide) (by rfl) (pa_cons (pv 0) (pa_cons (pe_op op_add pe_int (pv 4)) pa_nil))) pa_nil)) (pg_name (i := 6) scPart.nd rfl (Or.inl rfl))
        (pss_cons (ps_par3 (i := 10) (j := 11) (l := 9) (by rfl) scPart.nd rfl rfl rfl (by decide) (by decide) (by decide) rfl rfl rfl
            (pa_cons (pe_c cD hr (by decide) (by rfl) (pa_cons (pv 0) (pa_cons (pv 4) pa_nil))) (pa_cons (pe_c cD hr (by decide) (by rfl) (pa_cons (pv 0) (pa_cons (pv 4) pa_nil))) (pa_cons (pe_ix ix_list (pv 2) (pe_c cD hr (by decide) (by rfl) (pa_cons (pv 0) (pa_cons (pe_callB call_len_seq (by rfl) T.zlen boot_len (pa_cons (pv 2) pa_nil)) pa_nil))) (fun _ _ => rfl)) pa_nil))) (by rfl))
        (pss_one (ps_if (PW.pt (pw_and (pt_cmpR op_ne (pv 10) (pv 11) (nomark _)) (pw_and (pt_cmp (pc_dnotin hu (pe_tup (pa_cons (pv 10) (pa_cons (pv 9) pa_nil))) (pv 5)) rfl) (pw_and1 (pt_cmp (pc_dnotin hu (pe_tup (pa_cons (pv 11) (pa_cons (pv 9) pa_nil))) (pv 5)) rfl)))))
          (pss_cons (ps_dput hu (pv 5) (pe_tup (pa_cons (pv 10) (pa_cons (pv 9) pa_nil))) (pv 11) rfl)
          (pss_one (ps_dput hu (pv 5) (pe_tup (pa_cons (pv 11) (pa_cons (pv 9) pa_nil))) (pv 10) rfl))) pss_nil))))
      (pss_one (ps_ret (pe_tup (pa_cons (pv 4) (pa_cons (pv 5) pa_nil)))))))), ?_⟩
    have hsz : (4000 : Nat) < sizeLine := by decide
    have hsz2 : 2 ≤ sizeLine := by decide
    have wk : ∀ {H' : Hp}, Kp p H H' → H' wl = some (.lst (ws.map V.str)) := fun k => k.at hp hwl (strs_ne _)
    have hwlen : (((ws.map V.str).length : Nat) : Int) = (ws.length : Nat) := by rw [List.length_map]
    -- word
    dsimp only
    refine seq_cut (t := tAsg _ _) (fun σ' H' => ∃ wd : Str, σ' = [some (.ref p), some (.int most), some (.ref wl), some (.str wd), none, none, none, none, none, none, none, none] ∧ Kp p H H' ∧ wd ∈ ws) (fun NX hNX => ?_) ?_
    · refine ⟨_, rfl, _, rfl, _, rfl, wl, _, rfl, .inl (SqL.of hwl), p, _, rfl, hp, by omega, by omega, fun r H1 hr1 k1 => ?_⟩
      obtain ⟨wd, hwd⟩ : ∃ wd, ws[r]? = some wd := ⟨_, List.getElem?_eq_getElem (by omega)⟩
      exact ⟨wl, _, _, V.str wd, rfl, rfl, SqL.of (wk k1), atI_nat (by rw [List.getElem?_map, hwd]; rfl), hNX _ _ ⟨wd, rfl, k1, List.mem_of_getElem? hwd⟩⟩
    rintro σ H1 ⟨wd, rfl, k1, hwd⟩
    -- size, ends
    refine seq_cut (t := tAsg _ _) (fun σ' H' => ∃ (e : Addr) (kvs : List (List Key × V)) (E : Ends), σ' = sg p most wl wd 2 e none none none none none none ∧ Kp p H H' ∧ H e = none ∧ H' e = some (.dT kvs) ∧ Rep kvs E ∧ Dm.House 2 (· ∈ ws) E) (fun NX hNX => ?_) ?_
    · refine fun e he => ⟨_, rfl, hsz2, fun t1 ht1 => ⟨_, rfl, hsz2, fun t2 ht2 => ?_⟩⟩
      have h1 : (upd (upd H1 e (.dT [])) t1 (.tup [.int 0, .str wd])) e = some (.dT []) := at_in upd_same ht1
      refine ⟨at_in h1 ht2, [(EKey 0 wd, t1, nv 1), (EKey 1 wd, t2, nv 0)], rfl, fun x hx => ?_, by show 2 ≤ 15; decide, hsz2, fun t ht => ⟨t, _, rfl, SqT.of upd_same, rfl, _, _, rfl, _, _, rfl, rfl, ?_⟩⟩
      · rcases List.mem_cons.mp hx with z | z
        · rw [z]
          exact at_in upd_same ht2
        · rw [List.mem_singleton.mp z]
          exact upd_same
      · have s : Same H1 (upd (upd H1 e (.dT [])) t1 (.tup [.int 0, .str wd])) := (same_upd he).trans (same_upd ht1)
        have s2 := s.trans (same_upd (o := .tup [.int 1, .str wd]) ht2)
        have k2 := k1.same s2
        have he0 := k1.free he
        refine hNX _ _ ⟨e, _, Dm.door (fun _ _ => none) 0 wd 1, rfl, (k2.up hp he0).up hp ((k2.up hp he0).free ht), he0, at_in upd_same ht, (Rep.nil.put 0 wd 1).put 1 wd 0, Dm.House.two_ hwd⟩
    clear k1
    rintro σ H1 ⟨e, kvs, E, rfl, k1, he, hde, R, G⟩
    -- growing
    refine seq_cut (t := tFor _ _ _) (fun σ' H' => ∃ (N : Nat) (kvs : List (List Key × V)) (E : Ends) (v6 v7 v8 v9 v10 v11 : Option V), σ' = sg p most wl wd N e v6 v7 v8 v9 v10 v11 ∧ Kp p H H' ∧ H' e = some (.dT kvs) ∧ Rep kvs E ∧ Dm.House N (· ∈ ws) E ∧ (N : Int) ≤ most) (fun NX hNX => ?_) ?_
    · refine ⟨_, rfl, _, rfl, _, _, rfl, rfl, p, _, rfl, k1.pur, by omega, by omega, fun r H2 hr2 k2 => ?_⟩
      refine ⟨(r : Int), rfl, by omega, by omega, ?_⟩
      refine for_range (lo := 0) (n := (r : Int).toNat) (fun i σ' H' => ∃ (N : Nat) (kvs : List (List Key × V)) (E : Ends) (v6 v7 v8 v9 v10 v11 : Option V), σ' = sg p most wl wd N e v6 v7 v8 v9 v10 v11 ∧ Kp p H H' ∧ H' e = some (.dT kvs) ∧ Rep kvs E ∧ Dm.House N (· ∈ ws) E ∧ N ≤ i + 2)
        ⟨2, kvs, E, _, _, _, _, _, _, rfl, k1.trans k2, k2.at k1.pur hde (fun _ _ z => by cases z), R, G, Nat.le_refl _⟩ ?_ ?_
      · clear k1 hde R G k2 hNX
        rintro i σ' H3 hi ⟨N, kvs, E, v6, v7, v8, v9, v10, v11, rfl, k3, hde, R, G, hNi⟩
        have hN8 : N ≤ 8 := by omega
        have hkl := rep_len R G
        have hkl2 : kvs.length ≤ 120 := Nat.le_trans hkl (Nat.mul_le_mul hN8 hw15)
        dsimp only [gName]
        refine seq_cut (t := tAsg _ _) (fun σ' H' => ∃ fr : Addr, σ' = sg p most wl wd N e (some (.int (0 + (i : Nat)))) (some (.ref fr)) v8 v9 v10 v11 ∧ Kp p H H' ∧ H' e = some (.dT kvs) ∧ H' fr = some (.lst []) ∧ H fr = none) (fun NX hNX => ?_) ?_
        · refine ⟨Nat.zero_le _, fun fr hfr => hNX _ _ ⟨fr, rfl, k3.up hp (k3.free hfr), at_in hde hfr, upd_same, k3.free hfr⟩⟩
        clear k3 hde
        rintro σ H4 ⟨fr, rfl, k4, hde, hfr, hfr0⟩
        have hfe : fr ≠ e := ne_of hfr hde fun z => by cases z
        refine seq_cut (t := tFor _ _ _) (fun σ' H' => ∃ (fs : List Addr) (qs : List (Nat × Str)) (v8 v9 : Option V), σ' = sg p most wl wd N e (some (.int (0 + (i : Nat)))) (some (.ref fr)) v8 v9 v10 v11 ∧ Kp p H H' ∧ H' e = some (.dT kvs) ∧ H' fr = some (.lst (fs.map V.ref)) ∧ Paired (PairAt H') fs qs ∧ FreeQ N ws E qs ∧ qs.length ≤ 120) (fun NX hNX => ?_) ?_
        · refine ⟨_, rfl, (N : Int), rfl, by omega, by omega, ?_⟩
          refine for_range (lo := 0) (n := (N : Int).toNat) (fun h σ' H' => ∃ (fs : List Addr) (qs : List (Nat × Str)) (v8 v9 : Option V), σ' = sg p most wl wd N e (some (.int (0 + (i : Nat)))) (some (.ref fr)) v8 v9 v10 v11 ∧ Kp p H H' ∧ H' e = some (.dT kvs) ∧ H' fr = some (.lst (fs.map V.ref)) ∧ Paired (PairAt H') fs qs ∧ FreeQ N ws E qs ∧ qs.length ≤ 15 * h)
            ⟨[], [], v8, v9, rfl, k4, hde, hfr, .nil, fun q hq => (by cases hq), Nat.le_refl _⟩ ?_ ?_
          · clear k4 hde hfr hNX
            rintro h σ H5 hh ⟨fs, qs, v8, v9, rfl, k5, hde, hfr, hpq, hfq, hql⟩
            have hh : h < N := by omega
            rw [show (0 : Int) + ((h : Nat) : Int) = ((h : Nat) : Int) from Int.zero_add _]
            have hpl : fs.length = qs.length := hpq.length
            refine ⟨_, rfl, .inl ⟨rfl, _, SqL.of hfr⟩, ?_⟩
            refine ⟨_, rfl, wl, rfl, ⟨_, SqL.of (wk k5)⟩, fun D hD => ?_⟩
            have hwl5 := wk k5
            have hDe : D ≠ e := (ne_of_none hde hD).symm
            have hDf : D ≠ fr := (ne_of_none hfr hD).symm
            refine lc_list (K := K) (a := wl) (xs := ws.map V.str) (fun j H' => Same H5 H' ∧ ∃ (ts : List Addr) (rs : List (Nat × Str)), H' D = some (.lst (ts.map V.ref)) ∧ Paired (PairAt H') ts rs ∧ FreeQ N ws E rs ∧ rs.length ≤ j) ⟨same_upd hD, [], [], upd_same, .nil, fun q hq => (by cases hq), Nat.le_refl _⟩ (fun j H' _ ⟨s', _⟩ => SqL.of (s' _ _ hwl5)) ?_ ?_
            · rintro j x H6 hj ⟨s6, ts, rs, hd, hpr, hfr', hrl⟩
              obtain ⟨c, hc, rfl⟩ := get_map hj
              have hjl := (List.getElem?_eq_some_iff.mp hc).1
              have htl : ts.length = rs.length := hpr.length
              refine ⟨rfl, ?_⟩
              refine ⟨_, rfl, _, rfl, hsz2, fun z hz => ⟨_, rfl, e, _, rfl, DGet.t (k := EKey h c) (b := z) (at_in (s6 _ _ hde) hz) upd_same, _, rfl, ?_⟩⟩
              have s7 : Same H5 (upd H6 z (.tup [nv h, .str c])) := same_in s6 (s6.free hz)
              have hd7 : (upd H6 z (.tup [nv h, .str c])) D = some (.lst (ts.map V.ref)) := at_in hd hz
              have hpr7 := pairs_mono (Le.of_same (same_upd (o := .tup [nv h, .str c]) hz)) hpr
              rw [R.val]
              cases hE : E h c with
              | some y => exact iteF ⟨s7, ts, rs, hd7, hpr7, hfr', by omega⟩
              | none =>
                refine iteT ⟨_, rfl, _, rfl, hsz2, fun z2 hz2 => ?_⟩
                have hd8 : (upd (upd H6 z (.tup [nv h, .str c])) z2 (.tup [nv h, .str c])) D = some (.lst (ts.map V.ref)) := at_in hd7 hz2
                have hpr8 := pairs_mono (Le.of_same (same_upd (o := .tup [nv h, .str c]) hz2)) hpr7
                refine ⟨_, hd8, by rw [List.length_map]; omega, same_in (same_in s7 (s7.free hz2)) hD, ts ++ [z2], rs ++ [(h, c)], by rw [upd_same, map_snoc], ?_, hfr'.append fun q hq => by rw [List.mem_singleton.mp hq]; exact ⟨hh, List.mem_of_getElem? hc, hE⟩, by rw [List.length_append, List.length_singleton]; omega⟩
                exact (pairs_mono (Le.lst hd8) hpr8).snoc (Le.lst hd8 z2 _ upd_same trivial)
            · rintro H6 ⟨s6, ts, rs, hd, hpr, hfr', hrl⟩
              rw [List.length_map] at hrl
              have htl : ts.length = rs.length := hpr.length
              have hfr6 := s6 _ _ hfr
              refine ⟨fr, D, _, _, rfl, rfl, hfr6, hd, by rw [List.length_map, List.length_map]; omega, ?_⟩
              have k6 := k5.same s6
              refine ⟨fs ++ ts, qs ++ rs, _, _, rfl, k6.up hp hfr0, ?_, by rw [upd_same, List.map_append], ?_, hfq.append hfr', by rw [List.length_append]; omega⟩
              · rw [upd_ne hfe.symm]
                exact s6 _ _ hde
              · exact paired_app (pairs_mono (Le.lst hfr6) (pairs_mono (Le.of_same s6) hpq)) (pairs_mono (Le.lst hfr6) hpr)
          · rintro σ H5 ⟨fs, qs, v8, v9, rfl, k5, hde, hfr, hpq, hfq, hql⟩
            exact hNX _ _ ⟨fs, qs, _, _, rfl, k5, hde, hfr, hpq, hfq, by omega⟩
        clear k4 hde hfr
        rintro σ H5 ⟨fs, qs, v8, v9, rfl, k5, hde, hfr, hpq, hfq, hql⟩
        have hpl : fs.length = qs.length := hpq.length
        refine ⟨_, rfl, Nat.zero_le _, fun z hz => ?_⟩
        have hfrz : (upd H5 z (.lst [])) fr = some (.lst (fs.map V.ref)) := at_in hfr hz
        have hdez : (upd H5 z (.lst [])) e = some (.dT kvs) := at_in hde hz
        have k5z : Kp p H (upd H5 z (.lst [])) := k5.up hp (k5.free hz)
        have hpqz := pairs_mono (Le.of_same (same_upd (o := .lst []) hz)) hpq
        refine ne_nil hfrz upd_same hpqz (fun q hq => hcol _ (hfq q hq).2.1) (fun _ => ⟨_, rfl, iteF ⟨N, kvs, E, _, _, _, _, _, _, rfl, k5z, hdez, R, G, by omega⟩⟩) (fun hne => ⟨_, rfl, iteT ?_⟩)
        generalize upd H5 z (.lst []) = H6 at hfrz hdez k5z hpqz
        have hq0 : 0 < qs.length := List.length_pos_iff.mpr hne
        refine seq_cut (t := tAsg _ _) (fun σ' H' => ∃ (a : Nat) (c : Str), σ' = sg p most wl wd N e (some (.int (0 + (i : Nat)))) (some (.ref fr)) (some (nv a)) (some (.str c)) v10 v11 ∧ Kp p H H' ∧ H' e = some (.dT kvs) ∧ a < N ∧ c ∈ ws ∧ E a c = none) (fun NX hNX => ?_) ?_
        · refine ⟨_, rfl, _, rfl, _, rfl, fr, _, rfl, .inl (SqL.of hfrz), p, _, rfl, k5z.pur, by rw [List.length_map]; omega, by rw [List.length_map]; omega, fun r H7 hr7 k7 => ?_⟩
          rw [List.length_map] at hr7
          obtain ⟨t, ht⟩ : ∃ t, fs[r]? = some t := ⟨_, List.getElem?_eq_getElem (by omega)⟩
          obtain ⟨⟨a, c⟩, hac, hta⟩ := paired_get hpqz ht
          have hfree := hfq _ (List.mem_of_getElem? hac)
          have hta7 := k7.at k5z.pur hta (fun _ _ z => by cases z)
          refine ⟨fr, _, _, V.ref t, rfl, rfl, SqL.of (k7.at k5z.pur hfrz (refs_ne _)), atI_nat (by rw [List.getElem?_map, ht]; rfl), ?_⟩
          exact ⟨t, _, rfl, SqT.of hta7, rfl, _, _, rfl, _, _, rfl, rfl, hNX _ _ ⟨a, c, rfl, k5z.trans k7, k7.at k5z.pur hdez (fun _ _ z => by cases z), hfree⟩⟩
        clear k5z hdez hpqz hfrz
        rintro σ H7 ⟨a, c, rfl, k7, hde7, haN, hcw, hE⟩
        have l1 := length_putK kvs (EKey a c) (nv N)
        refine seq_cut (t := sDPut _ _ _) (fun σ' H' => σ' = sg p most wl wd N e (some (.int (0 + (i : Nat)))) (some (.ref fr)) (some (nv a)) (some (.str c)) v10 v11 ∧ Kp p H H' ∧ H' e = some (.dT (putK kvs (EKey a c) (nv N)))) (fun NX hNX => ?_) ?_
        · refine ⟨_, rfl, _, rfl, _, rfl, _, rfl, hsz2, fun z hz => ⟨e, _, rfl, DPut.t (k := EKey a c) (b := z) (at_in hde7 hz) upd_same (by omega), ?_⟩⟩
          exact hNX _ _ ⟨rfl, (k7.up hp (k7.free hz)).up hp he, upd_same⟩
        clear k7 hde7
        rintro σ H8 ⟨rfl, k8, hde8⟩
        refine seq_cut (t := sDPut _ _ _) (fun σ' H' => σ' = sg p most wl wd N e (some (.int (0 + (i : Nat)))) (some (.ref fr)) (some (nv a)) (some (.str c)) v10 v11 ∧ Kp p H H' ∧ H' e = some (.dT (putK (putK kvs (EKey a c) (nv N)) (EKey N c) (nv a)))) (fun NX hNX => ?_) ?_
        · refine ⟨_, rfl, _, rfl, _, rfl, _, rfl, hsz2, fun z hz => ⟨e, _, rfl, DPut.t (k := EKey N c) (b := z) (at_in hde8 hz) upd_same (by omega), ?_⟩⟩
          exact hNX _ _ ⟨rfl, (k8.up hp (k8.free hz)).up hp he, upd_same⟩
        clear k8 hde8
        rintro σ H9 ⟨rfl, k9, hde9⟩
        refine ⟨_, rfl, _, _, rfl, rfl, ?_⟩
        exact ⟨N + 1, _, _, _, _, _, _, _, _, rfl, k9, hde9, (R.put a c N).put N c a, G.grow haN hcw hE, by omega⟩
      · rintro σ' H3 ⟨N, kvs, E, v6, v7, v8, v9, v10, v11, rfl, k3, hde, R, G, hNi⟩
        exact hNX _ _ ⟨N, kvs, E, _, _, _, _, _, _, rfl, k3, hde, R, G, by omega⟩
    clear k1 hde R G
    rintro σ H1 ⟨N, kvs, E, v6, v7, v8, v9, v10, v11, rfl, k1, hde, R, G, hNm⟩
    have hN2 := G.two
    -- more doors
    refine seq_cut (t := tFor _ _ _) (fun σ' H' => ∃ (kvs : List (List Key × V)) (E : Ends) (v6 v7 v8 v9 v10 v11 : Option V), σ' = sg p most wl wd N e v6 v7 v8 v9 v10 v11 ∧ Kp p H H' ∧ H' e = some (.dT kvs) ∧ Rep kvs E ∧ Dm.House N (· ∈ ws) E) (fun NX hNX => ?_) ?_
    · refine ⟨_, rfl, _, rfl, _, _, rfl, rfl, p, _, rfl, k1.pur, by omega, by omega, fun r H2 hr2 k2 => ?_⟩
      refine ⟨(r : Int), rfl, by omega, by omega, ?_⟩
      refine for_range (lo := 0) (n := (r : Int).toNat) (fun i σ' H' => ∃ (kvs : List (List Key × V)) (E : Ends) (v6 v7 v8 v9 v10 v11 : Option V), σ' = sg p most wl wd N e v6 v7 v8 v9 v10 v11 ∧ Kp p H H' ∧ H' e = some (.dT kvs) ∧ Rep kvs E ∧ Dm.House N (· ∈ ws) E)
        ⟨kvs, E, _, _, _, _, _, _, rfl, k1.trans k2, k2.at k1.pur hde (fun _ _ z => by cases z), R, G⟩ ?_ ?_
      · clear k1 hde R G k2 hNX
        rintro i σ' H3 hi ⟨kvs, E, v6, v7, v8, v9, v10, v11, rfl, k3, hde, R, G⟩
        have hN8 : N ≤ 8 := by omega
        have hkl := rep_len R G
        have hkl2 : kvs.length ≤ 120 := Nat.le_trans hkl (Nat.mul_le_mul hN8 hw15)
        dsimp only [gName]
        refine seq_cut (t := tPar3 _ _ _ _) (fun σ' H' => ∃ (a b : Nat) (c : Str), σ' = sg p most wl wd N e (some (.int (0 + (i : Nat)))) v7 v8 (some (.str c)) (some (nv a)) (some (nv b)) ∧ Kp p H H' ∧ H' e = some (.dT kvs) ∧ a < N ∧ b < N ∧ c ∈ ws) (fun NX hNX => ?_) ?_
        · refine ⟨_, rfl, _, rfl, p, _, rfl, k3.pur, by omega, by omega, fun a H4 ha k4 => ?_⟩
          refine ⟨_, rfl, _, rfl, p, _, rfl, k4.pur, by omega, by omega, fun b H5 hb k5 => ?_⟩
          have k5' := k3.trans (k4.trans k5)
          refine ⟨_, rfl, _, rfl, _, rfl, wl, _, rfl, .inl (SqL.of (wk k5')), p, _, rfl, k5.pur, by omega, by omega, fun r H6 hr6 k6 => ?_⟩
          obtain ⟨c, hc⟩ : ∃ c, ws[r]? = some c := ⟨_, List.getElem?_eq_getElem (by omega)⟩
          have k6' := k5'.trans k6
          refine ⟨wl, _, _, V.str c, rfl, rfl, SqL.of (wk k6'), atI_nat (by rw [List.getElem?_map, hc]; rfl), _, _, _, rfl, ?_⟩
          exact hNX _ _ ⟨a, b, c, rfl, k6', (k4.trans (k5.trans k6)).at k3.pur hde (fun _ _ z => by cases z), by omega, by omega, List.mem_of_getElem? hc⟩
        clear k3 hde
        rintro σ H4 ⟨a, b, c, rfl, k4, hde, ha, hb, hc⟩
        refine ⟨_, rfl, _, rfl, rfl, _, rfl, ?_⟩
        by_cases hab : a = b
        · subst hab
          rw [decide_eq_true (rfl : nv a = nv a)]
          exact iteF (iteF ⟨kvs, E, _, _, _, _, _, _, rfl, k4, hde, R, G⟩)
        have hab' : ¬ nv a = nv b := fun z => by
          injection z with z
          omega
        rw [decide_eq_false hab']
        refine iteT ?_
        refine ⟨_, rfl, _, rfl, hsz2, fun z hz => ⟨_, rfl, e, _, rfl, DGet.t (k := EKey a c) (b := z) (at_in hde hz) upd_same, _, rfl, ?_⟩⟩
        have k5 : Kp p H (upd H4 z (.tup [nv a, .str c])) := k4.up hp (k4.free hz)
        have hde5 : (upd H4 z (.tup [nv a, .str c])) e = some (.dT kvs) := at_in hde hz
        rw [R.val]
        cases hEa : E a c with
        | some y => exact iteF (iteF ⟨kvs, E, _, _, _, _, _, _, rfl, k5, hde5, R, G⟩)
        | none =>
          refine iteT ?_
          refine ⟨_, rfl, _, rfl, hsz2, fun z2 hz2 => ⟨_, rfl, e, _, rfl, DGet.t (k := EKey b c) (b := z2) (at_in hde5 hz2) upd_same, _, rfl, ?_⟩⟩
          have k6 : Kp p H (upd (upd H4 z (.tup [nv a, .str c])) z2 (.tup [nv b, .str c])) := k5.up hp (k5.free hz2)
          have hde6 : (upd (upd H4 z (.tup [nv a, .str c])) z2 (.tup [nv b, .str c])) e = some (.dT kvs) := at_in hde5 hz2
          rw [R.val]
          cases hEb : E b c with
          | some y => exact iteF ⟨kvs, E, _, _, _, _, _, _, rfl, k6, hde6, R, G⟩
          | none =>
            refine iteT ?_
            generalize upd (upd H4 z (.tup [nv a, .str c])) z2 (.tup [nv b, .str c]) = H6 at k6 hde6
            clear k5 hde5 k4 hde
            have l1 := length_putK kvs (EKey a c) (nv b)
            refine seq_cut (t := sDPut _ _ _) (fun σ' H' => σ' = sg p most wl wd N e (some (.int (0 + (i : Nat)))) v7 v8 (some (.str c)) (some (nv a)) (some (nv b)) ∧ Kp p H H' ∧ H' e = some (.dT (putK kvs (EKey a c) (nv b)))) (fun NX hNX => ?_) ?_
            · refine ⟨_, rfl, _, rfl, _, rfl, _, rfl, hsz2, fun z hz => ⟨e, _, rfl, DPut.t (k := EKey a c) (b := z) (at_in hde6 hz) upd_same (by omega), ?_⟩⟩
              exact hNX _ _ ⟨rfl, (k6.up hp (k6.free hz)).up hp he, upd_same⟩
            clear k6 hde6
            rintro σ H8 ⟨rfl, k8, hde8⟩
            refine ⟨_, rfl, _, rfl, _, rfl, _, rfl, hsz2, fun z hz => ⟨e, _, rfl, DPut.t (k := EKey b c) (b := z) (at_in hde8 hz) upd_same (by omega), ?_⟩⟩
            exact ⟨_, _, _, _, _, _, _, _, rfl, (k8.up hp (k8.free hz)).up hp he, upd_same, (R.put a c b).put b c a, G.door ha hb hab hc hEa hEb⟩
      · rintro σ' H3 ⟨kvs, E, v6, v7, v8, v9, v10, v11, rfl, k3, hde, R, G⟩
        exact hNX _ _ ⟨kvs, E, _, _, _, _, _, _, rfl, k3, hde, R, G⟩
    clear k1 hde R G
    rintro σ H1 ⟨kvs, E, v6, v7, v8, v9, v10, v11, rfl, k1, hde, R, G⟩
    refine ⟨_, rfl, _, rfl, hsz2, fun t ht => ?_⟩
    exact q _ t N E (k1.up hp (k1.free ht)) (k1.free ht) ⟨e, kvs, upd_same, at_in hde ht, R⟩ G hNm
end
end DL

/-! the law's renumbered and crossed -/
namespace DL
open PySem L2 DI DO DS

/-! ### what a dict of ends tells, put by put -/
structure Told (F P : Nat → Str → Nat → Prop) (E : Ends) : Prop where
  iff : ∀ k c z, E k c = some z ↔ P k c z
  sub : ∀ k c z, P k c z → F k c z
theorem Told.start {F : Nat → Str → Nat → Prop} : Told F (fun _ _ _ => False) (fun _ _ => none) := ⟨fun _ _ _ => ⟨(fun h => by cases h), False.elim⟩, fun _ _ _ h => h.elim⟩
theorem Told.put {F P : Nat → Str → Nat → Prop} {E : Ends} (hF : ∀ k c z z', F k c z → F k c z' → z = z') (T : Told F P E) {k z : Nat} {c : Str} (h : F k c z) : Told F (fun k' c' z' => P k' c' z' ∨ (k' = k ∧ c' = c ∧ z' = z)) (Dm.put E k c z) := by
  refine ⟨fun k' c' z' => ?_, fun k' c' z' q => ?_⟩
  · unfold Dm.put
    by_cases e : k' = k ∧ c' = c
    · obtain ⟨rfl, rfl⟩ := e
      rw [if_pos ⟨rfl, rfl⟩]
      constructor
      · intro q
        exact .inr ⟨rfl, rfl, (Option.some.inj q).symm⟩
      · rintro (q | ⟨_, _, rfl⟩)
        · rw [hF _ _ _ _ (T.sub _ _ _ q) h]
        · rfl
    · rw [if_neg e, T.iff]
      constructor
      · exact .inl
      · rintro (q | ⟨rfl, rfl, _⟩)
        · exact q
        · exact absurd ⟨rfl, rfl⟩ e
  · rcases q with q | ⟨rfl, rfl, rfl⟩
    · exact T.sub _ _ _ q
    · exact h
theorem Told.congr {F P P' : Nat → Str → Nat → Prop} {E : Ends} (T : Told F P E) (h : ∀ k c z, P k c z ↔ P' k c z) : Told F P' E := ⟨fun k c z => (T.iff k c z).trans (h k c z), fun k c z q => T.sub _ _ _ ((h k c z).2 q)⟩

theorem perm_erase {α : Type} : ∀ {l : List α} {r : Nat} {y : α}, l[r]? = some y → l.Perm (y :: l.eraseIdx r)
  | [], r, y, h => by simp at h
  | x :: l, 0, y, h => by
    cases h
    exact .refl _
  | x :: l, r + 1, y, h => ((perm_erase (l := l) (r := r) h).cons x).trans (.swap _ _ _)
theorem erase_map {α β : Type} (f : α → β) : ∀ (l : List α) (r : Nat), (l.map f).eraseIdx r = (l.eraseIdx r).map f
  | [], _ => rfl
  | _ :: _, 0 => rfl
  | x :: l, r + 1 => by
    show f x :: (l.map f).eraseIdx r = f x :: (l.eraseIdx r).map f
    rw [erase_map f l r]
theorem rg_nat (N : Nat) : rgV 0 (N : Int) = (List.range N).map nv := by
  unfold rgV
  rw [show ((N : Int) - 0).toNat = N by omega]
  refine List.map_congr_left fun i _ => ?_
  rw [Int.zero_add]
theorem renumber_house {N : Nat} {W : Str → Prop} {E E' : Ends} {ord : List Nat} (G : Dm.House N W E) (hp : ord.Perm (List.range N)) (T : ∀ k c z, E' k c = some z ↔ ∃ h x, E h c = some x ∧ ord[h]? = some k ∧ ord[x]? = some z) : Dm.House N W E' := by
  have hl : ord.length = N := by rw [hp.length_eq, List.length_range]
  have nd : ord.Nodup := hp.symm.nodup List.nodup_range
  have hm : ∀ x, x ∈ ord ↔ x < N := fun x => by rw [hp.mem_iff, List.mem_range]
  have hg : ∀ h, h < N → ord[h]? = some (ord.getD h 0) := fun h hh => by rw [List.getD_eq_getElem?_getD, List.getElem?_eq_getElem (by omega)]; rfl
  have hidx : ∀ h, h < N → ord.idxOf h < N ∧ ord.getD (ord.idxOf h) 0 = h := fun h hh => by
    have h1 := List.idxOf_lt_length_of_mem ((hm h).2 hh)
    refine ⟨by omega, ?_⟩
    rw [List.getD_eq_getElem?_getD, List.getElem?_eq_getElem h1, List.getElem_idxOf]
    rfl
  refine Dm.House.renumber (fun h => ord.getD h 0) (fun h => ord.idxOf h) G (fun h hh => (hm _).1 (List.mem_of_getElem? (hg h hh))) hidx (fun a b ha hb e => ?_) (fun h c x e => ?_) fun h c x e => ?_
  · have e1 := hg a ha
    have e2 := hg b hb
    have e : ord.getD a 0 = ord.getD b 0 := e
    rw [e] at e1
    obtain ⟨l1, q1⟩ := List.getElem?_eq_some_iff.mp e1
    obtain ⟨l2, q2⟩ := List.getElem?_eq_some_iff.mp e2
    exact (List.getElem_inj nd).mp (q1.trans q2.symm)
  · have := G.lt _ _ _ e
    exact (T _ _ _).2 ⟨h, x, e, hg h this.1, hg x this.2⟩
  · obtain ⟨h', x', e', h1, h2⟩ := (T _ _ _).1 e
    have := G.lt _ _ _ e'
    refine ⟨h', x', e', ?_, ?_⟩
    · have := hg h' this.1
      rw [h1] at this
      exact Option.some.inj this
    · have := hg x' this.2
      rw [h2] at this
      exact Option.some.inj this

section
variable {P : Program} {w : World} {K : PySem.W.Frag} {mg : Str → Option Value} {base : Heap} {CH CC : Addr}

/-! ### _law_renumbered -/
def spRenum : Sp := fun vs H Q _ => ∃ (p a : Addr) (m : Model), vs = [.ref p, .ref a] ∧ Purse H p ∧ ModelAt H a m ∧ Good m.N m.ws m.E ∧ m.ws.length ≤ 15 ∧
  ∀ (H' : Hp) (q : Addr) (E' : Ends), Kp p H H' → H q = none → ModelAt H' q ⟨m.N, m.ws, E'⟩ → Good m.N m.ws E' → Q (.ref q) H'
theorem scRenum : FnScope ["_law_purse_here", "_law_model", "_law_left", "_law_order", "_law_ends", "_law_turn", "_law_hall", "_law_word"] ["_law_purse_here", "_law_model"] (defScope sRenum) := ⟨rfl, rfl, rfl, by decide +kernel, rfl, by decide +kernel, by decide +kernel⟩
set_option maxHeartbeats 4000000 in
theorem ok_renum {f : Addr} {fd : FuncData} (F : L2.Fun K "_law_renumbered" "_law_renumbered" sRenum f fd) (T : Txt K mg CH CC) (cD : Cal P w K mg base 1 "_law_draw" spDraw) : FnOk P w K mg base CX0 2 f fd ["_law_purse_here", "_law_model"] spRenum := by
  refine F.ok scRenum (fun vs H Q E h => ?_) (fun cdv A outer s H vs Q E hr h => ?_)
  · obtain ⟨p, a, m, rfl, _⟩ := h
    rfl
  · obtain ⟨p, a, m, rfl, hp, M, G, hwl, q⟩ := h
    have hu := hu_of hr
    refine ⟨_, pss_cons (ps_par3 (i := 2) (j := 3) (l := 4) (by rfl) scRenum.nd rfl rfl rfl (by decide) (by decide) (by decide) rfl rfl rfl
        (pa_cons (pe_listRg rfl (by rfl) T.zlist (prg_1 (by rfl) T.zrange (pe_ix ix_tup (pv 1) pe_int (fun _ _ => rfl)))) (pa_cons (pe_lst pa_nil) (pa_cons pe_dnewT pa_nil))) (by rfl))
      (pss_cons (ps_for PassesOwn.never rfl (pi_range1 rfl T.zrange (pa_cons (pe_ix ix_tup (pv 1) pe_int (fun _ _ => rfl)) pa_nil)) (pg_name (i := 5) scRenum.nd rfl (Or.inl rfl))
        (pss_one (ps_expr (pe_bm PySem.F.plainAttrs_list PySem.F.slot_list_append PySem.F.type_list_append mt_append (pv 3) (pa_cons
          (pe_bm PySem.F.plainAttrs_list PySem.F.slot_list_pop PySem.F.type_list_pop mt_popAt (pv 2) (pa_cons (pe_c cD hr (by decide) (by rfl) (pa_cons (pv 0) (pa_cons (pe_callB call_len_seq (by rfl) T.zlen boot_len (pa_cons (pv 2) pa_nil)) pa_nil))) pa_nil)) pa_nil)))))
      (pss_cons (ps_lock (ps_for PassesOwn.never rfl (pi_keys (pe_ix ix_tup (pv 1) pe_int (fun _ _ => rfl))) (pg_tup rfl (pgs_cons (pg_name (i := 6) scRenum.nd rfl (Or.inl rfl)) (pgs_cons (pg_name (i := 7) scRenum.nd rfl (Or.inl rfl)) pgs_nil)))
        (pss_one (ps_dput hu (pv 4) (pe_tup (pa_cons (pe_ix ix_list (pv 3) (pv 6) (fun _ _ => rfl)) (pa_cons (pv 7) pa_nil)))
          (pe_ix ix_list (pv 3) (pe_dget hu (pe_ix ix_tup (pv 1) pe_int (fun _ _ => rfl)) (pe_tup (pa_cons (pv 6) (pa_cons (pv 7) pa_nil))) (fun _ _ => rfl)) (fun _ _ => rfl)) rfl))))
      (pss_one (ps_ret (pe_tup (pa_cons (pe_ix ix_tup (pv 1) pe_int (fun _ _ => rfl)) (pa_cons (pv 4) pa_nil))))))), ?_⟩
    have hsz : (4000 : Nat) < sizeLine := by decide
    have hsz2 : 2 ≤ sizeLine := by decide
    have hN := G.le
    obtain ⟨ed, ks, h1, h2, R⟩ := M.ex
    have hks := rep_len1000 R G hwl
    have keepA : ∀ {H' : Hp}, Kp p H H' → H' a = some (.tup [nv m.N, .ref ed]) := fun k => k.at hp h1 (fun _ _ z => by cases z)
    have keepD : ∀ {H' : Hp}, Kp p H H' → H' ed = some (.dT ks) := fun k => k.at hp h2 (fun _ _ z => by cases z)
    dsimp only
    refine seq_cut (t := tPar3 _ _ _ _) (fun σ' H' => ∃ lf od e : Addr, σ' = [some (.ref p), some (.ref a), some (.ref lf), some (.ref od), some (.ref e), none, none, none] ∧ Kp p H H' ∧ H lf = none ∧ H od = none ∧ H e = none ∧ H' lf = some (.lst ((List.range m.N).map nv)) ∧ H' od = some (.lst []) ∧ H' e = some (.dT []) ∧ lf ≠ od) (fun NX hNX => ?_) ?_
    · refine ⟨_, rfl, a, _, 0, _, rfl, rfl, SqT.of h1, atI_nat (j := 0) rfl, (m.N : Int), rfl, RgOk.of_le (by omega) (by omega) (by omega) (by omega), fun lf hlf => ?_⟩
      rw [rg_nat]
      refine ⟨Nat.zero_le _, fun od hod => fun e he => ⟨_, _, _, rfl, hNX _ _ ⟨lf, od, e, rfl, ?_⟩⟩⟩
      have k1 : Kp p H (upd H lf (.lst ((List.range m.N).map nv))) := (Kp.refl hp).up hp hlf
      have hod0 := k1.free hod
      have k2 := k1.up (o := .lst []) hp hod0
      have he0 := k2.free he
      exact ⟨k2.up hp he0, hlf, hod0, he0, at_in (at_in upd_same hod) he, at_in upd_same he, upd_same, ne_of_none upd_same hod⟩
    rintro σ H1 ⟨lf, od, e, rfl, k1, hlf0, hod0, he0, hlf, hod, hde, hlo⟩
    have hep := hp.dne he0
    have hlp := hp.dne hlf0
    have hop := hp.dne hod0
    refine seq_cut (t := tFor _ _ _) (fun σ' H' => ∃ (ord : List Nat) (v5 : Option V), σ' = [some (.ref p), some (.ref a), some (.ref lf), some (.ref od), some (.ref e), v5, none, none] ∧ Kp p H H' ∧ H' od = some (.lst (ord.map nv)) ∧ H' e = some (.dT []) ∧ ord.Perm (List.range m.N)) (fun NX hNX => ?_) ?_
    · refine ⟨_, rfl, a, _, 0, _, rfl, rfl, SqT.of (keepA k1), atI_nat (j := 0) rfl, (m.N : Int), rfl, by omega, by omega, ?_⟩
      refine for_range (lo := 0) (n := (m.N : Int).toNat) (fun i σ' H' => ∃ (ord lft : List Nat) (v5 : Option V), σ' = [some (.ref p), some (.ref a), some (.ref lf), some (.ref od), some (.ref e), v5, none, none] ∧ Kp p H H' ∧ H' lf = some (.lst (lft.map nv)) ∧ H' od = some (.lst (ord.map nv)) ∧ H' e = some (.dT []) ∧ (ord ++ lft).Perm (List.range m.N) ∧ ord.length = i)
        ⟨[], List.range m.N, none, rfl, k1, hlf, hod, hde, .refl _, rfl⟩ ?_ ?_
      · clear k1 hlf hod hde hNX
        rintro i σ H2 hi ⟨ord, lft, v5, rfl, k2, hlf, hod, hde, hperm, hol⟩
        have hll : ord.length + lft.length = m.N := by
          have := hperm.length_eq
          rw [List.length_append, List.length_range] at this
          exact this
        have hi : i < m.N := by omega
        refine ⟨_, rfl, .inl ⟨rfl, _, SqL.of hod⟩, _, rfl, .inl ⟨rfl, _, SqL.of hlf⟩, _, rfl, _, rfl, lf, _, rfl, .inl (SqL.of hlf), p, _, rfl, k2.pur, by rw [List.length_map]; omega, by rw [List.length_map]; omega, fun r H3 hr3 k3 => ?_⟩
        rw [List.length_map] at hr3
        obtain ⟨y, hy⟩ : ∃ y, lft[r]? = some y := ⟨_, List.getElem?_eq_getElem (by omega)⟩
        have hlf3 := k3.keep _ _ hlf hlp
        have hod3 := k3.keep _ _ hod hop
        have hde3 := k3.keep _ _ hde hep
        have hsi : seqIndex? ((r : Nat) : Int) (lft.map nv).length = some r := by
          unfold seqIndex?
          rw [List.length_map]
          have c1 : ¬ ((r : Nat) : Int) < 0 := by omega
          rw [if_neg c1]
          have c2 : (decide (0 ≤ ((r : Nat) : Int)) && decide (((r : Nat) : Int) < (lft.length : Nat))) = true := by
            rw [decide_eq_true (by omega), decide_eq_true (by omega)]
            rfl
          rw [if_pos c2, Int.toNat_natCast]
        refine ⟨lf, _, _, r, nv y, rfl, rfl, hlf3, by omega, by omega, hsi, by rw [List.getElem?_map, hy]; rfl, ?_⟩
        have hod4 : (upd H3 lf (.lst ((lft.map nv).eraseIdx r))) od = some (.lst (ord.map nv)) := by
          rw [upd_ne hlo.symm]
          exact hod3
        refine ⟨od, _, _, rfl, rfl, hod4, by rw [List.length_map]; omega, ?_⟩
        refine ⟨ord ++ [y], lft.eraseIdx r, _, rfl, ((k2.trans k3).up hp hlf0).up hp hod0, ?_, by rw [upd_same, map_snoc], ?_, ?_, by rw [List.length_append, hol]; rfl⟩
        · rw [upd_ne hlo, upd_same, erase_map]
        · rw [upd_ne (ne_of hde3 hod3 fun z => by cases z), upd_ne (ne_of hde3 hlf3 fun z => by cases z)]
          exact hde3
        · refine List.Perm.trans ?_ hperm
          rw [List.append_assoc]
          exact (List.Perm.refl ord).append (perm_erase hy).symm
      · rintro σ H2 ⟨ord, lft, v5, rfl, k2, hlf, hod, hde, hperm, hol⟩
        have hll := hperm.length_eq
        rw [List.length_append, List.length_range] at hll
        have : lft = [] := List.eq_nil_of_length_eq_zero (by omega)
        subst this
        rw [List.append_nil] at hperm
        exact hNX _ _ ⟨ord, _, rfl, k2, hod, hde, hperm⟩
    clear k1 hlf hod hde
    rintro σ H1 ⟨ord, v5, rfl, k1, hod, hde, hperm⟩
    have hol : ord.length = m.N := by rw [hperm.length_eq, List.length_range]
    have ond : ord.Nodup := hperm.symm.nodup List.nodup_range
    have hoe : od ≠ e := ne_of hod hde fun z => by cases z
    have hFf : ∀ k c z z', (∃ h x, m.E h c = some x ∧ ord[h]? = some k ∧ ord[x]? = some z) → (∃ h x, m.E h c = some x ∧ ord[h]? = some k ∧ ord[x]? = some z') → z = z' := by
      rintro k c z z' ⟨h, x, e1, e2, e3⟩ ⟨h', x', f1, f2, f3⟩
      obtain ⟨l1, q1⟩ := List.getElem?_eq_some_iff.mp e2
      obtain ⟨l2, q2⟩ := List.getElem?_eq_some_iff.mp f2
      have : h = h' := (List.getElem_inj ond).mp (q1.trans q2.symm)
      subst this
      rw [e1] at f1
      cases f1
      rw [e3] at f3
      exact Option.some.inj f3
    refine seq_cut (t := tLock _) (fun σ' H' => ∃ (kvs : List (List Key × V)) (E' : Ends) (v5 v6 v7 : Option V), σ' = [some (.ref p), some (.ref a), some (.ref lf), some (.ref od), some (.ref e), v5, v6, v7] ∧ Kp p H H' ∧ H' e = some (.dT kvs) ∧ Rep kvs E' ∧ ∀ k c z, E' k c = some z ↔ ∃ h x, m.E h c = some x ∧ ord[h]? = some k ∧ ord[x]? = some z) (fun NX hNX => ?_) ?_
    · have hed1 := keepD k1
      have ha1 := keepA k1
      refine ⟨ed, .dT ks, hed1, trivial, fun ob => ?_⟩
      have hee : e ≠ ed := (ne_of_none h2 he0).symm
      have hal : (upd H1 ed (.frz ob (.dT ks))) a = some (.tup [nv m.N, .ref ed]) := by
        rw [upd_ne (ne_of ha1 hed1 fun z => by cases z)]
        exact ha1
      have hodl : (upd H1 ed (.frz ob (.dT ks))) od = some (.lst (ord.map nv)) := by
        rw [upd_ne (ne_of hod hed1 fun z => by cases z)]
        exact hod
      have hdel : (upd H1 ed (.frz ob (.dT ks))) e = some (.dT []) := by
        rw [upd_ne hee]
        exact hde
      have hfrz : (upd H1 ed (.frz ob (.dT ks))) ed = some (.frz ob (.dT ks)) := upd_same
      have hback : ∀ H' : Hp, (∀ b o, (upd H1 ed (.frz ob (.dT ks))) b = some o → b ≠ e → H' b = some o) → Kp p H (upd H' ed (.dT ks)) := fun H' h => by
        refine ⟨fun b o hb nb => ?_, ?_⟩
        · by_cases hbe : b = ed
          · rw [hbe, h2] at hb
            rw [hbe, upd_same]
            exact hb
          · rw [upd_ne hbe]
            refine h b o ?_ (ne_of_none hb he0)
            rw [upd_ne hbe]
            exact k1.keep b o hb nb
        · obtain ⟨x, y, hxy, ok⟩ := k1.pur
          have hpe : p ≠ ed := ne_of hxy hed1 fun z => by cases z
          refine ⟨x, y, ?_, ok⟩
          rw [upd_ne hpe]
          refine h p _ ?_ hep.symm
          rw [upd_ne hpe]
          exact hxy
      refine ⟨_, rfl, a, _, 1, _, rfl, rfl, SqT.of hal, atI_nat (j := 1) rfl, ed, ob, rfl, .inr ⟨ks, upd_same, ?_⟩⟩
      revert hal hodl hdel hfrz hback
      generalize upd H1 ed (.frz ob (.dT ks)) = HL
      intro hal hodl hdel hfrz hback
      refine for_gen (J := Itkt ed ob ks) (n := ks.length) (fun i σ' H' => ∃ (kvs : List (List Key × V)) (E' : Ends) (v6 v7 : Option V), σ' = [some (.ref p), some (.ref a), some (.ref lf), some (.ref od), some (.ref e), v5, v6, v7] ∧ (∀ b o, HL b = some o → b ≠ e → H' b = some o) ∧ H' e = some (.dT kvs) ∧ Rep kvs E' ∧ kvs.length ≤ i ∧
        Told (fun k c z => ∃ h x, m.E h c = some x ∧ ord[h]? = some k ∧ ord[x]? = some z) (fun k c z => ∃ h x, (EKey h c, nv x) ∈ ks.take i ∧ ord[h]? = some k ∧ ord[x]? = some z) E')
        ⟨[], _, none, none, rfl, fun _ _ h _ => h, hdel, Rep.nil, Nat.le_refl _, Told.start.congr fun k c z => by simp⟩
        (fun i σ' H' hi ⟨_, _, _, _, _, s', _⟩ => ⟨s' _ _ hfrz hee.symm, hi⟩) (fun σ' H' ⟨_, _, _, _, _, s', _⟩ => ⟨s' _ _ hfrz hee.symm, Nat.le_refl _⟩) ?_ ?_
      · rintro i y σ H2 H3 hi ⟨kvs, E', v6, v7, rfl, s2, hde, RR, hkl, TT⟩ ⟨rfl, kk, vv, kq, hkk, rfl, hkq⟩
        obtain ⟨h, c, x, e1, hE⟩ := R.get hkk
        have e1' : kk = EKey h c := congrArg (·.1) e1
        have e2' : vv = nv x := congrArg (·.2) e1
        subst e1' e2'
        have hlt := G.g.lt _ _ _ hE
        obtain ⟨k, hk⟩ : ∃ k, ord[h]? = some k := ⟨_, List.getElem?_eq_getElem (by omega)⟩
        obtain ⟨z, hz⟩ : ∃ z, ord[x]? = some z := ⟨_, List.getElem?_eq_getElem (by omega)⟩
        have hatk : atI (ord.map nv) ((h : Nat) : Int) = some (nv k) := atI_nat (by rw [List.getElem?_map, hk]; rfl)
        have hatz : atI (ord.map nv) ((x : Nat) : Int) = some (nv z) := atI_nat (by rw [List.getElem?_map, hz]; rfl)
        have hal3 := s2 _ _ hal (ne_of_none h1 he0)
        have hod3 := s2 _ _ hodl hoe
        have hfr3 := s2 _ _ hfrz hee.symm
        refine ⟨kq, _, rfl, SqT.of hkq, rfl, _, _, rfl, _, _, rfl, rfl, ?_⟩
        -- the value
        refine ⟨_, rfl, _, rfl, a, _, 1, _, rfl, rfl, SqT.of hal3, atI_nat (j := 1) rfl, _, rfl, _, rfl, hsz2, fun t1 ht1 => ?_⟩
        have g : DGet (upd H3 t1 (.tup [nv h, .str c])) ed (.ref t1) (valV ks (EKey h c)) := .inr ⟨ks, EKey h c, t1, .inr ⟨ob, at_in hfr3 ht1⟩, rfl, upd_same, rfl⟩
        rw [R.val, hE] at g
        refine ⟨ed, nv x, rfl, g, ?_⟩
        have hod4 : (upd H3 t1 (.tup [nv h, .str c])) od = some (.lst (ord.map nv)) := at_in hod3 ht1
        have hde4 : (upd H3 t1 (.tup [nv h, .str c])) e = some (.dT kvs) := at_in hde ht1
        refine ⟨od, _, _, _, rfl, rfl, SqL.of hod4, hatz, ?_⟩
        refine ⟨_, rfl, _, rfl, _, rfl, od, _, _, _, rfl, rfl, SqL.of hod4, hatk, _, rfl, hsz2, fun t2 ht2 => ?_⟩
        have l1 := length_putK kvs (EKey k c) (nv z)
        refine ⟨e, _, rfl, DPut.t (k := EKey k c) (b := t2) (at_in hde4 ht2) upd_same (by omega), ?_⟩
        refine ⟨_, Dm.put E' k c z, _, _, rfl, fun b o hb nb => ?_, upd_same, RR.put k c z, by omega, ?_⟩
        · rw [upd_ne nb]
          have hb3 := s2 _ _ hb nb
          exact at_in (at_in hb3 ht1) ht2
        · refine (TT.put hFf ⟨h, x, hE, hk, hz⟩).congr fun k' c' z' => ?_
          have tk : ks.take (i + 1) = ks.take i ++ [(EKey h c, nv x)] := by rw [List.take_add_one, hkk]; rfl
          rw [tk]
          constructor
          · rintro (⟨h', x', m', q1, q2⟩ | ⟨rfl, rfl, rfl⟩)
            · exact ⟨h', x', List.mem_append_left _ m', q1, q2⟩
            · exact ⟨h, x, List.mem_append_right _ (List.mem_singleton.mpr rfl), hk, hz⟩
          · rintro ⟨h', x', m', q1, q2⟩
            rcases List.mem_append.mp m' with z2 | z2
            · exact .inl ⟨h', x', z2, q1, q2⟩
            · have z2 := List.mem_singleton.mp z2
              obtain ⟨y1, y2⟩ := ekey_inj (congrArg (·.1) z2)
              have y3 : nv x' = nv x := congrArg (·.2) z2
              injection y3 with y3
              have y3 : x' = x := by omega
              subst y1 y2 y3
              rw [hk] at q1
              rw [hz] at q2
              exact .inr ⟨(Option.some.inj q1).symm, rfl, (Option.some.inj q2).symm⟩
      · rintro σ H2 ⟨kvs, E', v6, v7, rfl, s2, hde, RR, hkl, TT⟩
        rw [List.take_length] at TT
        refine ⟨s2 _ _ hfrz hee.symm, hNX _ _ ⟨kvs, E', _, _, _, rfl, hback H2 s2, by rw [upd_ne hee]; exact hde, RR, fun k c z => ?_⟩⟩
        rw [TT.iff]
        constructor
        · rintro ⟨h, x, m', q1, q2⟩
          exact ⟨h, x, R.at m', q1, q2⟩
        · rintro ⟨h, x, m', q1, q2⟩
          exact ⟨h, x, R.mem m', q1, q2⟩
    clear k1 hod hde
    rintro σ H1 ⟨kvs, E', v5, v6, v7, rfl, k1, hde, RR, hT⟩
    refine ⟨_, rfl, a, _, 0, _, rfl, rfl, SqT.of (keepA k1), atI_nat (j := 0) rfl, _, rfl, hsz2, fun t ht => ?_⟩
    exact q _ t E' (k1.up hp (k1.free ht)) (k1.free ht) ⟨e, kvs, upd_same, at_in hde ht, RR⟩ ⟨renumber_house G.g hperm hT, hN⟩
end
end DL

/-! the law's crossed -/
namespace DL
open PySem L2 DI DO DS

theorem mix_inj {n a b y z : Nat} (hy : y < n) (hz : z < n) (e : a * n + y = b * n + z) : a = b ∧ y = z := by
  have h1 : (a * n + y) / n = a := by
    rw [Nat.mul_comm, Nat.mul_add_div (by omega), Nat.div_eq_of_lt hy, Nat.add_zero]
  have h2 : (b * n + z) / n = b := by
    rw [Nat.mul_comm, Nat.mul_add_div (by omega), Nat.div_eq_of_lt hz, Nat.add_zero]
  have e1 : a = b := by rw [← h1, ← h2, e]
  subst e1
  exact ⟨rfl, by omega⟩
/-- the ends of the cross of two houses -/
def FX (m1 m2 : Model) (k : Nat) (c : Str) (z : Nat) : Prop := (∃ h x y, y < m2.N ∧ m1.E h c = some x ∧ k = h * m2.N + y ∧ z = x * m2.N + y) ∨ (∃ h x y, y < m1.N ∧ m2.E h c = some x ∧ k = y * m2.N + h ∧ z = y * m2.N + x)
theorem fx_fun {m1 m2 : Model} (G1 : Dm.House m1.N (· ∈ m1.ws) m1.E) (G2 : Dm.House m2.N (· ∈ m2.ws) m2.E) (dj : ∀ c, c ∈ m1.ws → c ∈ m2.ws → False) : ∀ k c z z', FX m1 m2 k c z → FX m1 m2 k c z' → z = z' := by
  rintro k c z z' (⟨h, x, y, hy, e1, rfl, rfl⟩ | ⟨h, x, y, hy, e1, rfl, rfl⟩) (⟨h', x', y', hy', e2, q1, rfl⟩ | ⟨h', x', y', hy', e2, q1, rfl⟩)
  · obtain ⟨rfl, rfl⟩ := mix_inj hy hy' q1
    rw [e1] at e2
    cases e2
    rfl
  · exact (dj c (G1.col _ _ _ e1) (G2.col _ _ _ e2)).elim
  · exact (dj c (G1.col _ _ _ e2) (G2.col _ _ _ e1)).elim
  · obtain ⟨rfl, rfl⟩ := mix_inj (G2.lt _ _ _ e1).1 (G2.lt _ _ _ e2).1 q1
    rw [e1] at e2
    cases e2
    rfl

section
variable {P : Program} {w : World} {K : PySem.W.Frag} {mg : Str → Option Value} {base : Heap} {CH CC : Addr}
def spCrossed : Sp := fun vs H Q _ => ∃ (a b : Addr) (m1 m2 : Model), vs = [.ref a, .ref b] ∧ ModelAt H a m1 ∧ ModelAt H b m2 ∧ Dm.House m1.N (· ∈ m1.ws) m1.E ∧ Dm.House m2.N (· ∈ m2.ws) m2.E ∧ m1.N ≤ 4 ∧ m2.N ≤ 2 ∧ m1.ws.length ≤ 15 ∧ m2.ws.length ≤ 15 ∧ (∀ c, c ∈ m1.ws → c ∈ m2.ws → False) ∧
  ∀ (H' : Hp) (q : Addr) (E' : Ends), Same H H' → H q = none → ModelAt H' q ⟨m1.N * m2.N, m1.ws ++ m2.ws, E'⟩ → Dm.House (m1.N * m2.N) (· ∈ m1.ws ++ m2.ws) E' → Q (.ref q) H'
theorem scCrossed : FnScope ["_law_first", "_law_second", "_law_size", "_law_ends", "_law_hall", "_law_word", "_law_rival"] ["_law_first", "_law_second"] (defScope sCrossed) := ⟨rfl, rfl, rfl, by decide +kernel, rfl, by decide +kernel, by decide +kernel⟩
abbrev cg (a b : Addr) (N2 : Nat) (e : Addr) (v4 v5 v6 : Option V) : L2.St := [some (.ref a), some (.ref b), some (nv N2), some (.ref e), v4, v5, v6]
set_option maxHeartbeats 4000000 in
theorem ok_crossed {f : Addr} {fd : FuncData} (F : L2.Fun K "_law_crossed" "_law_crossed" sCrossed f fd) (T : Txt K mg CH CC) : FnOk P w K mg base CX0 1 f fd ["_law_first", "_law_second"] spCrossed := by
  refine F.ok scCrossed (fun vs H Q E h => ?_) (fun cdv A outer s H vs Q E hr h => ?_)
  · obtain ⟨a, b, m1, m2, rfl, _⟩ := h
    rfl
  · obtain ⟨a, b, m1, m2, rfl, M1, M2, G1, G2, hN1, hN2, hw1, hw2, dj, q⟩ := h
    have hu := hu_of hr
    refine ⟨_, pss_cons (ps_par (i := 2) (j := 3) (by rfl) scCrossed.nd rfl rfl (by decide) rfl rfl (pa_cons (pe_ix ix_tup (pv 1) pe_int (fun _ _ => rfl)) (pa_cons pe_dnewT pa_nil)) (by rfl))
      (pss_cons (ps_lock (ps_for PassesOwn.never rfl (pi_keys (pe_ix ix_tup (pv 0) pe_int (fun _ _ => rfl))) (pg_tup rfl (pgs_cons (pg_name (i := 4) scCrossed.nd rfl (Or.inl rfl)) (pgs_cons (pg_name (i := 5) scCrossed.nd rfl (Or.inl rfl)) pgs_nil)))
        (pss_one (ps_for PassesOwn.never rfl (pi_range1 rfl T.zrange (pa_cons (pv 2) pa_nil)) (pg_name (i := 6) scCrossed.nd rfl (Or.inl rfl))
          (pss_one (ps_dput hu (pv 3) (pe_tup (pa_cons (pe_op op_add (pe_op op_mul (pv 4) (pv 2)) (pv 6)) (pa_cons (pv 5) pa_nil)))
            (pe_op op_add (pe_op op_mul (pe_dget hu (pe_ix ix_tup (pv 0) pe_int (fun _ _ => rfl)) (pe_tup (pa_cons (pv 4) (pa_cons (pv 5) pa_nil))) (fun _ _ => rfl)) (pv 2)) (pv 6)) rfl))))))
      (pss_cons (ps_lock (ps_for PassesOwn.never rfl (pi_keys (pe_ix ix_tup (pv 1) pe_int (fun _ _ => rfl))) (pg_tup rfl (pgs_cons (pg_name (i := 4) scCrossed.nd rfl (Or.inl rfl)) (pgs_cons (pg_name (i := 5) scCrossed.nd rfl (Or.inl rfl)) pgs_nil)))
        (pss_one (ps_for PassesOwn.never rfl (pi_range1 rfl T.zrange (pa_cons (pe_ix ix_tup (pv 0) pe_int (fun _ _ => rfl)) pa_nil)) (pg_name (i := 6) scCrossed.nd rfl (Or.inl rfl))
          (pss_one (ps_dput hu (pv 3) (pe_tup (pa_cons (pe_op op_add (pe_op op_mul (pv 6) (pv 2)) (pv 4)) (pa_cons (pv 5) pa_nil)))
            (pe_op op_add (pe_op op_mul (pv 6) (pv 2)) (pe_dget hu (pe_ix ix_tup (pv 1) pe_int (fun _ _ => rfl)) (pe_tup (pa_cons (pv 4) (pa_cons (pv 5) pa_nil))) (fun _ _ => rfl))) rfl))))))
      (pss_one (ps_ret (pe_tup (pa_cons (pe_op op_mul (pe_ix ix_tup (pv 0) pe_int (fun _ _ => rfl)) (pv 2)) (pa_cons (pv 3) pa_nil))))))), ?_⟩
    have hsz : (4000 : Nat) < sizeLine := by decide
    have hsz2 : 2 ≤ sizeLine := by decide
    obtain ⟨d1, ks1, h1, h2, R1⟩ := M1.ex
    obtain ⟨d2, ks2, g1, g2, R2⟩ := M2.ex
    have hks1 : ks1.length ≤ 60 := Nat.le_trans (rep_len R1 G1) (Nat.mul_le_mul hN1 hw1)
    have hks2 : ks2.length ≤ 30 := Nat.le_trans (rep_len R2 G2) (Nat.mul_le_mul hN2 hw2)
    have t1 := G1.two
    have t2 := G2.two
    have hff := fx_fun G1 G2 dj
    refine ⟨_, rfl, b, _, 0, _, rfl, rfl, SqT.of g1, atI_nat (j := 0) rfl, fun e he => ⟨_, _, rfl, ?_⟩⟩
    have hde1 : e ≠ d1 := (ne_of_none h2 he).symm
    have hde2 : e ≠ d2 := (ne_of_none g2 he).symm
    have hae : a ≠ e := ne_of_none h1 he
    have hbe : b ≠ e := ne_of_none g1 he
    have s0 : Same H (upd H e (.dT [])) := same_upd he
    have hde0 : (upd H e (.dT [])) e = some (.dT []) := upd_same
    revert s0 hde0
    dsimp only
    generalize upd H e (.dT []) = H1
    intro s0 hde0
    -- the first house's doors
    refine seq_cut (t := tLock _) (fun σ' H' => ∃ (kvs : List (List Key × V)) (E' : Ends) (v4 v5 v6 : Option V), σ' = cg a b m2.N e v4 v5 v6 ∧ Same H H' ∧ H' e = some (.dT kvs) ∧ Rep kvs E' ∧ kvs.length ≤ 120 ∧ Told (FX m1 m2) (fun k c z => ∃ h x y, y < m2.N ∧ m1.E h c = some x ∧ k = h * m2.N + y ∧ z = x * m2.N + y) E') (fun NX hNX => ?_) ?_
    · have hd1 := s0 _ _ h2
      have ha1 := s0 _ _ h1
      refine ⟨d1, .dT ks1, hd1, trivial, fun ob => ?_⟩
      have hal : (upd H1 d1 (.frz ob (.dT ks1))) a = some (.tup [nv m1.N, .ref d1]) := by
        rw [upd_ne (ne_of ha1 hd1 fun z => by cases z)]
        exact ha1
      have hel : (upd H1 d1 (.frz ob (.dT ks1))) e = some (.dT []) := by
        rw [upd_ne hde1]
        exact hde0
      have hfrz : (upd H1 d1 (.frz ob (.dT ks1))) d1 = some (.frz ob (.dT ks1)) := upd_same
      have hback : ∀ H' : Hp, (∀ b o, (upd H1 d1 (.frz ob (.dT ks1))) b = some o → b ≠ e → H' b = some o) → Same H (upd H' d1 (.dT ks1)) := fun H' h b' o hb => by
        by_cases hbe : b' = d1
        · rw [hbe, h2] at hb
          rw [hbe, upd_same]
          exact hb
        · rw [upd_ne hbe]
          refine h b' o ?_ (ne_of_none hb he)
          rw [upd_ne hbe]
          exact s0 b' o hb
      refine ⟨_, rfl, a, _, 1, _, rfl, rfl, SqT.of hal, atI_nat (j := 1) rfl, d1, ob, rfl, .inr ⟨ks1, upd_same, ?_⟩⟩
      revert hal hel hfrz hback
      generalize upd H1 d1 (.frz ob (.dT ks1)) = HL
      intro hal hel hfrz hback
      refine for_gen (J := Itkt d1 ob ks1) (n := ks1.length) (fun i σ' H' => ∃ (kvs : List (List Key × V)) (E' : Ends) (v4 v5 v6 : Option V), σ' = cg a b m2.N e v4 v5 v6 ∧ (∀ b o, HL b = some o → b ≠ e → H' b = some o) ∧ H' e = some (.dT kvs) ∧ Rep kvs E' ∧ kvs.length ≤ 2 * i ∧
        Told (FX m1 m2) (fun k c z => ∃ h x y, y < m2.N ∧ (EKey h c, nv x) ∈ ks1.take i ∧ k = h * m2.N + y ∧ z = x * m2.N + y) E')
        ⟨[], _, none, none, none, rfl, fun _ _ h _ => h, hel, Rep.nil, Nat.le_refl _, Told.start.congr fun k c z => by simp⟩
        (fun i σ' H' hi ⟨_, _, _, _, _, _, s', _⟩ => ⟨s' _ _ hfrz hde1.symm, hi⟩) (fun σ' H' ⟨_, _, _, _, _, _, s', _⟩ => ⟨s' _ _ hfrz hde1.symm, Nat.le_refl _⟩) ?_ ?_
      · rintro i y σ H2 H3 hi ⟨kvs, E', v4, v5, v6, rfl, s2, hde, RR, hkl, TT⟩ ⟨rfl, kk, vv, kq, hkk, rfl, hkq⟩
        obtain ⟨h, c, x, e1, hE⟩ := R1.get hkk
        have e1' : kk = EKey h c := congrArg (·.1) e1
        have e2' : vv = nv x := congrArg (·.2) e1
        subst e1' e2'
        have hlt := G1.lt _ _ _ hE
        have tk : ks1.take (i + 1) = ks1.take i ++ [(EKey h c, nv x)] := by rw [List.take_add_one, hkk]; rfl
        refine ⟨kq, _, rfl, SqT.of hkq, rfl, _, _, rfl, _, _, rfl, rfl, ?_⟩
        refine ⟨_, rfl, (m2.N : Int), rfl, by omega, by omega, ?_⟩
        refine for_range (lo := 0) (n := (m2.N : Int).toNat) (fun j σ' H' => ∃ (kvs : List (List Key × V)) (E' : Ends) (v6 : Option V), σ' = cg a b m2.N e (some (nv h)) (some (.str c)) v6 ∧ (∀ b o, HL b = some o → b ≠ e → H' b = some o) ∧ H' e = some (.dT kvs) ∧ Rep kvs E' ∧ kvs.length ≤ 2 * i + j ∧
          Told (FX m1 m2) (fun k c' z => (∃ h x y, y < m2.N ∧ (EKey h c', nv x) ∈ ks1.take i ∧ k = h * m2.N + y ∧ z = x * m2.N + y) ∨ ∃ y, y < j ∧ k = h * m2.N + y ∧ c' = c ∧ z = x * m2.N + y) E')
          ⟨kvs, E', v6, rfl, s2, hde, RR, hkl, TT.congr fun k c' z => ⟨.inl, fun q => q.elim id fun ⟨y, hy, _⟩ => absurd hy (Nat.not_lt_zero _)⟩⟩ ?_ ?_
        · clear s2 hde RR hkl TT
          rintro j σ H4 hj ⟨kvs, E', v6, rfl, s2, hde, RR, hkl, TT⟩
          have hj : j < m2.N := by omega
          rw [show (0 : Int) + ((j : Nat) : Int) = ((j : Nat) : Int) from Int.zero_add _]
          have hal3 := s2 _ _ hal hae
          have hfr3 := s2 _ _ hfrz hde1.symm
          have ek : V.int ((h : Int) * (m2.N : Nat) + (j : Nat)) = nv (h * m2.N + j) := by
            show V.int _ = V.int _
            congr 1
          have ez : V.int ((x : Int) * (m2.N : Nat) + (j : Nat)) = nv (x * m2.N + j) := by
            show V.int _ = V.int _
            congr 1
          refine ⟨_, rfl, a, _, 1, _, rfl, rfl, SqT.of hal3, atI_nat (j := 1) rfl, _, rfl, _, rfl, hsz2, fun z1 hz1 => ?_⟩
          have g : DGet (upd H4 z1 (.tup [nv h, .str c])) d1 (.ref z1) (valV ks1 (EKey h c)) := .inr ⟨ks1, EKey h c, z1, .inr ⟨ob, at_in hfr3 hz1⟩, rfl, upd_same, rfl⟩
          rw [R1.val, hE] at g
          refine ⟨d1, nv x, rfl, g, ?_⟩
          refine ⟨_, rfl, _, _, rfl, rfl, .inl ⟨by omega, by omega⟩, _, rfl, _, _, rfl, rfl, ?_⟩
          refine ⟨_, rfl, _, rfl, _, rfl, _, _, rfl, rfl, .inl ⟨by omega, by omega⟩, _, rfl, _, _, rfl, rfl, _, rfl, hsz2, fun z2 hz2 => ?_⟩
          have hde4 : (upd H4 z1 (.tup [nv h, .str c])) e = some (.dT kvs) := at_in hde hz1
          have l1 := length_putK kvs (EKey (h * m2.N + j) c) (nv (x * m2.N + j))
          have hput : DPut (upd (upd H4 z1 (.tup [nv h, .str c])) z2 (.tup [.int ((h : Int) * (m2.N : Nat) + (j : Nat)), .str c])) e (.ref z2) (.int ((x : Int) * (m2.N : Nat) + (j : Nat)))
              (upd (upd (upd H4 z1 (.tup [nv h, .str c])) z2 (.tup [.int ((h : Int) * (m2.N : Nat) + (j : Nat)), .str c])) e (.dT (putK kvs (EKey (h * m2.N + j) c) (nv (x * m2.N + j))))) := by
            rw [ek, ez]
            exact DPut.t (k := EKey (h * m2.N + j) c) (b := z2) (at_in hde4 hz2) upd_same (by omega)
          refine ⟨e, _, rfl, hput, ?_⟩
          refine ⟨_, Dm.put E' (h * m2.N + j) c (x * m2.N + j), _, rfl, fun b' o hb nb => ?_, upd_same, RR.put _ _ _, by omega, ?_⟩
          · rw [upd_ne nb]
            exact at_in (at_in (s2 _ _ hb nb) hz1) hz2
          · refine (TT.put hff (.inl ⟨h, x, j, hj, hE, rfl, rfl⟩)).congr fun k' c' z' => ?_
            constructor
            · rintro ((q1 | ⟨y, hy, q1⟩) | ⟨rfl, rfl, rfl⟩)
              · exact .inl q1
              · exact .inr ⟨y, by omega, q1⟩
              · exact .inr ⟨j, by omega, rfl, rfl, rfl⟩
            · rintro (q1 | ⟨y, hy, rfl, rfl, rfl⟩)
              · exact .inl (.inl q1)
              · rcases Nat.lt_or_ge y j with z | z
                · exact .inl (.inr ⟨y, z, rfl, rfl, rfl⟩)
                · have : y = j := by omega
                  subst this
                  exact .inr ⟨rfl, rfl, rfl⟩
        · rintro σ H4 ⟨kvs, E', v6, rfl, s2, hde, RR, hkl, TT⟩
          refine ⟨kvs, E', _, _, _, rfl, s2, hde, RR, by omega, TT.congr fun k c' z => ?_⟩
          rw [tk]
          constructor
          · rintro (⟨h', x', y, hy, m', q1⟩ | ⟨y, hy, rfl, rfl, rfl⟩)
            · exact ⟨h', x', y, hy, List.mem_append_left _ m', q1⟩
            · exact ⟨h, x, y, by omega, List.mem_append_right _ (List.mem_singleton.mpr rfl), rfl, rfl⟩
          · rintro ⟨h', x', y, hy, m', q1, q2⟩
            rcases List.mem_append.mp m' with z2 | z2
            · exact .inl ⟨h', x', y, hy, z2, q1, q2⟩
            · have z2 := List.mem_singleton.mp z2
              obtain ⟨y1, y2⟩ := ekey_inj (congrArg (·.1) z2)
              have y3 : nv x' = nv x := congrArg (·.2) z2
              injection y3 with y3
              have y3 : x' = x := by omega
              subst y1 y2 y3
              exact .inr ⟨y, by omega, q1, rfl, q2⟩
      · rintro σ H2 ⟨kvs, E', v4, v5, v6, rfl, s2, hde, RR, hkl, TT⟩
        rw [List.take_length] at TT
        refine ⟨s2 _ _ hfrz hde1.symm, hNX _ _ ⟨kvs, E', _, _, _, rfl, hback H2 s2, by rw [upd_ne hde1]; exact hde, RR, by omega, TT.congr fun k c z => ?_⟩⟩
        constructor
        · rintro ⟨h, x, y, hy, m', q1⟩
          exact ⟨h, x, y, hy, R1.at m', q1⟩
        · rintro ⟨h, x, y, hy, m', q1⟩
          exact ⟨h, x, y, hy, R1.mem m', q1⟩
    clear s0 hde0
    rintro σ H1 ⟨kvs0, E0', v4, v5, v6, rfl, s0, hde0, RR0, hkl0, TT0⟩
    -- the second house's doors
    refine seq_cut (t := tLock _) (fun σ' H' => ∃ (kvs : List (List Key × V)) (E' : Ends) (v4 v5 v6 : Option V), σ' = cg a b m2.N e v4 v5 v6 ∧ Same H H' ∧ H' e = some (.dT kvs) ∧ Rep kvs E' ∧ ∀ k c z, E' k c = some z ↔ FX m1 m2 k c z) (fun NX hNX => ?_) ?_
    · have hd1 := s0 _ _ g2
      have ha1 := s0 _ _ g1
      have hA1 := s0 _ _ h1
      refine ⟨d2, .dT ks2, hd1, trivial, fun ob => ?_⟩
      have hal : (upd H1 d2 (.frz ob (.dT ks2))) b = some (.tup [nv m2.N, .ref d2]) := by
        rw [upd_ne (ne_of ha1 hd1 fun z => by cases z)]
        exact ha1
      have hAl : (upd H1 d2 (.frz ob (.dT ks2))) a = some (.tup [nv m1.N, .ref d1]) := by
        rw [upd_ne (ne_of hA1 hd1 fun z => by cases z)]
        exact hA1
      have hel : (upd H1 d2 (.frz ob (.dT ks2))) e = some (.dT kvs0) := by
        rw [upd_ne hde2]
        exact hde0
      have hfrz : (upd H1 d2 (.frz ob (.dT ks2))) d2 = some (.frz ob (.dT ks2)) := upd_same
      have hback : ∀ H' : Hp, (∀ b o, (upd H1 d2 (.frz ob (.dT ks2))) b = some o → b ≠ e → H' b = some o) → Same H (upd H' d2 (.dT ks2)) := fun H' h b' o hb => by
        by_cases hbe : b' = d2
        · rw [hbe, g2] at hb
          rw [hbe, upd_same]
          exact hb
        · rw [upd_ne hbe]
          refine h b' o ?_ (ne_of_none hb he)
          rw [upd_ne hbe]
          exact s0 b' o hb
      refine ⟨_, rfl, b, _, 1, _, rfl, rfl, SqT.of hal, atI_nat (j := 1) rfl, d2, ob, rfl, .inr ⟨ks2, upd_same, ?_⟩⟩
      revert hal hAl hel hfrz hback
      generalize upd H1 d2 (.frz ob (.dT ks2)) = HL
      intro hal hAl hel hfrz hback
      refine for_gen (J := Itkt d2 ob ks2) (n := ks2.length) (fun i σ' H' => ∃ (kvs : List (List Key × V)) (E' : Ends) (v4 v5 v6 : Option V), σ' = cg a b m2.N e v4 v5 v6 ∧ (∀ b o, HL b = some o → b ≠ e → H' b = some o) ∧ H' e = some (.dT kvs) ∧ Rep kvs E' ∧ kvs.length ≤ 120 + 4 * i ∧
        Told (FX m1 m2) (fun k c z => (∃ h x y, y < m2.N ∧ m1.E h c = some x ∧ k = h * m2.N + y ∧ z = x * m2.N + y) ∨ ∃ h x y, y < m1.N ∧ (EKey h c, nv x) ∈ ks2.take i ∧ k = y * m2.N + h ∧ z = y * m2.N + x) E')
        ⟨kvs0, E0', v4, v5, v6, rfl, fun _ _ h _ => h, hel, RR0, hkl0, TT0.congr fun k c z => by simp⟩
        (fun i σ' H' hi ⟨_, _, _, _, _, _, s', _⟩ => ⟨s' _ _ hfrz hde2.symm, hi⟩) (fun σ' H' ⟨_, _, _, _, _, _, s', _⟩ => ⟨s' _ _ hfrz hde2.symm, Nat.le_refl _⟩) ?_ ?_
      · rintro i y σ H2 H3 hi ⟨kvs, E', v4, v5, v6, rfl, s2, hde, RR, hkl, TT⟩ ⟨rfl, kk, vv, kq, hkk, rfl, hkq⟩
        obtain ⟨h, c, x, e1, hE⟩ := R2.get hkk
        have e1' : kk = EKey h c := congrArg (·.1) e1
        have e2' : vv = nv x := congrArg (·.2) e1
        subst e1' e2'
        have hlt := G2.lt _ _ _ hE
        have tk : ks2.take (i + 1) = ks2.take i ++ [(EKey h c, nv x)] := by rw [List.take_add_one, hkk]; rfl
        refine ⟨kq, _, rfl, SqT.of hkq, rfl, _, _, rfl, _, _, rfl, rfl, ?_⟩
        refine ⟨_, rfl, a, _, 0, _, rfl, rfl, SqT.of (s2 _ _ hAl hae), atI_nat (j := 0) rfl, (m1.N : Int), rfl, by omega, by omega, ?_⟩
        refine for_range (lo := 0) (n := (m1.N : Int).toNat) (fun j σ' H' => ∃ (kvs : List (List Key × V)) (E' : Ends) (v6 : Option V), σ' = cg a b m2.N e (some (nv h)) (some (.str c)) v6 ∧ (∀ b o, HL b = some o → b ≠ e → H' b = some o) ∧ H' e = some (.dT kvs) ∧ Rep kvs E' ∧ kvs.length ≤ 120 + 4 * i + j ∧
          Told (FX m1 m2) (fun k c' z => ((∃ h x y, y < m2.N ∧ m1.E h c' = some x ∧ k = h * m2.N + y ∧ z = x * m2.N + y) ∨ ∃ h x y, y < m1.N ∧ (EKey h c', nv x) ∈ ks2.take i ∧ k = y * m2.N + h ∧ z = y * m2.N + x) ∨ ∃ y, y < j ∧ k = y * m2.N + h ∧ c' = c ∧ z = y * m2.N + x) E')
          ⟨kvs, E', v6, rfl, s2, hde, RR, hkl, TT.congr fun k c' z => ⟨.inl, fun q => q.elim id fun ⟨y, hy, _⟩ => absurd hy (Nat.not_lt_zero _)⟩⟩ ?_ ?_
        · clear s2 hde RR hkl TT
          rintro j σ H4 hj ⟨kvs, E', v6, rfl, s2, hde, RR, hkl, TT⟩
          have hj : j < m1.N := by omega
          rw [show (0 : Int) + ((j : Nat) : Int) = ((j : Nat) : Int) from Int.zero_add _]
          have hal3 := s2 _ _ hal hbe
          have hfr3 := s2 _ _ hfrz hde2.symm
          have ek : V.int ((j : Int) * (m2.N : Nat) + (h : Nat)) = nv (j * m2.N + h) := by
            show V.int _ = V.int _
            congr 1
          have ez : V.int ((j : Int) * (m2.N : Nat) + (x : Nat)) = nv (j * m2.N + x) := by
            show V.int _ = V.int _
            congr 1
          refine ⟨_, rfl, _, rfl, _, _, rfl, rfl, .inl ⟨by omega, by omega⟩, ?_⟩
          refine ⟨_, rfl, b, _, 1, _, rfl, rfl, SqT.of hal3, atI_nat (j := 1) rfl, _, rfl, _, rfl, hsz2, fun z1 hz1 => ?_⟩
          have g : DGet (upd H4 z1 (.tup [nv h, .str c])) d2 (.ref z1) (valV ks2 (EKey h c)) := .inr ⟨ks2, EKey h c, z1, .inr ⟨ob, at_in hfr3 hz1⟩, rfl, upd_same, rfl⟩
          rw [R2.val, hE] at g
          refine ⟨d2, nv x, rfl, g, _, _, rfl, rfl, ?_⟩
          refine ⟨_, rfl, _, rfl, _, rfl, _, _, rfl, rfl, .inl ⟨by omega, by omega⟩, _, rfl, _, _, rfl, rfl, _, rfl, hsz2, fun z2 hz2 => ?_⟩
          have hde4 : (upd H4 z1 (.tup [nv h, .str c])) e = some (.dT kvs) := at_in hde hz1
          have l1 := length_putK kvs (EKey (j * m2.N + h) c) (nv (j * m2.N + x))
          have hput : DPut (upd (upd H4 z1 (.tup [nv h, .str c])) z2 (.tup [.int ((j : Int) * (m2.N : Nat) + (h : Nat)), .str c])) e (.ref z2) (.int ((j : Int) * (m2.N : Nat) + (x : Nat)))
              (upd (upd (upd H4 z1 (.tup [nv h, .str c])) z2 (.tup [.int ((j : Int) * (m2.N : Nat) + (h : Nat)), .str c])) e (.dT (putK kvs (EKey (j * m2.N + h) c) (nv (j * m2.N + x))))) := by
            rw [ek, ez]
            exact DPut.t (k := EKey (j * m2.N + h) c) (b := z2) (at_in hde4 hz2) upd_same (by omega)
          refine ⟨e, _, rfl, hput, ?_⟩
          refine ⟨_, Dm.put E' (j * m2.N + h) c (j * m2.N + x), _, rfl, fun b' o hb nb => ?_, upd_same, RR.put _ _ _, by omega, ?_⟩
          · rw [upd_ne nb]
            exact at_in (at_in (s2 _ _ hb nb) hz1) hz2
          · refine (TT.put hff (.inr ⟨h, x, j, hj, hE, rfl, rfl⟩)).congr fun k' c' z' => ?_
            constructor
            · rintro ((q1 | ⟨y, hy, q1⟩) | ⟨rfl, rfl, rfl⟩)
              · exact .inl q1
              · exact .inr ⟨y, by omega, q1⟩
              · exact .inr ⟨j, by omega, rfl, rfl, rfl⟩
            · rintro (q1 | ⟨y, hy, rfl, rfl, rfl⟩)
              · exact .inl (.inl q1)
              · rcases Nat.lt_or_ge y j with z | z
                · exact .inl (.inr ⟨y, z, rfl, rfl, rfl⟩)
                · have : y = j := by omega
                  subst this
                  exact .inr ⟨rfl, rfl, rfl⟩
        · rintro σ H4 ⟨kvs, E', v6, rfl, s2, hde, RR, hkl, TT⟩
          refine ⟨kvs, E', _, _, _, rfl, s2, hde, RR, by omega, TT.congr fun k c' z => ?_⟩
          rw [tk]
          constructor
          · rintro ((q1 | ⟨h', x', y, hy, m', q1⟩) | ⟨y, hy, rfl, rfl, rfl⟩)
            · exact .inl q1
            · exact .inr ⟨h', x', y, hy, List.mem_append_left _ m', q1⟩
            · exact .inr ⟨h, x, y, by omega, List.mem_append_right _ (List.mem_singleton.mpr rfl), rfl, rfl⟩
          · rintro (q1 | ⟨h', x', y, hy, m', q1, q2⟩)
            · exact .inl (.inl q1)
            · rcases List.mem_append.mp m' with z2 | z2
              · exact .inl (.inr ⟨h', x', y, hy, z2, q1, q2⟩)
              · have z2 := List.mem_singleton.mp z2
                obtain ⟨y1, y2⟩ := ekey_inj (congrArg (·.1) z2)
                have y3 : nv x' = nv x := congrArg (·.2) z2
                injection y3 with y3
                have y3 : x' = x := by omega
                subst y1 y2 y3
                exact .inr ⟨y, by omega, q1, rfl, q2⟩
      · rintro σ H2 ⟨kvs, E', v4, v5, v6, rfl, s2, hde, RR, hkl, TT⟩
        rw [List.take_length] at TT
        refine ⟨s2 _ _ hfrz hde2.symm, hNX _ _ ⟨kvs, E', _, _, _, rfl, hback H2 s2, by rw [upd_ne hde2]; exact hde, RR, fun k c z => ?_⟩⟩
        rw [TT.iff]
        constructor
        · rintro (q1 | ⟨h, x, y, hy, m', q1⟩)
          · exact .inl q1
          · exact .inr ⟨h, x, y, hy, R2.at m', q1⟩
        · rintro (q1 | ⟨h, x, y, hy, m', q1⟩)
          · exact .inl q1
          · exact .inr ⟨h, x, y, hy, R2.mem m', q1⟩
    clear s0 hde0 RR0 TT0
    rintro σ H1 ⟨kvs, E', v4, v5, v6, rfl, s1, hde, RR, hT⟩
    refine ⟨_, rfl, a, _, 0, _, rfl, rfl, SqT.of (s1 _ _ h1), atI_nat (j := 0) rfl, _, rfl, _, _, rfl, rfl, .inl ⟨by omega, by omega⟩, _, rfl, hsz2, fun t ht => ?_⟩
    have X := Dm.House.cross (E' := E') G1 G2 dj (fun h c x y hy e => (hT _ _ _).2 (.inl ⟨h, x, y, hy, e, rfl, rfl⟩)) (fun h c x y hy e => (hT _ _ _).2 (.inr ⟨h, x, y, hy, e, rfl, rfl⟩)) (fun k c z e => (hT _ _ _).1 e)
    have en : V.int ((m1.N : Int) * (m2.N : Nat)) = nv (m1.N * m2.N) := by
      show V.int _ = V.int _
      congr 1
    refine q _ t E' (same_in s1 (s1.free ht)) (s1.free ht) ⟨e, kvs, ?_, at_in hde ht, RR⟩ (X.more fun c hc => List.mem_append.mpr hc)
    rw [upd_same]
    show some (HO.tup [V.int ((m1.N : Int) * (m2.N : Nat)), .ref e]) = _
    rw [en]
end
end DL

/-! the law's parts, wide, lines, scene -/
namespace DL
open PySem L2 DI DO DS SX

/-- the models made so far: c is a colour of the j-th only if B j c -/
structure Made (B : Nat → Str → Prop) (Nm wm : Nat) (ms : List Model) : Prop where
  good : ∀ (j : Nat) (m : Model), ms[j]? = some m → Good m.N m.ws m.E ∧ m.N ≤ Nm ∧ m.ws.length ≤ wm ∧ ∀ c ∈ m.ws, Colour c ∧ B j c
theorem Made.nil {B : Nat → Str → Prop} {Nm wm : Nat} : Made B Nm wm [] := ⟨fun j m h => by simp at h⟩
theorem Made.snoc {B : Nat → Str → Prop} {Nm wm : Nat} {ms : List Model} {m : Model} (X : Made B Nm wm ms) (h : Good m.N m.ws m.E ∧ m.N ≤ Nm ∧ m.ws.length ≤ wm ∧ ∀ c ∈ m.ws, Colour c ∧ B ms.length c) : Made B Nm wm (ms ++ [m]) := by
  refine ⟨fun j m' e => ?_⟩
  rcases Nat.lt_or_ge j ms.length with q | q
  · rw [List.getElem?_append_left q] at e
    exact X.good j m' e
  · rw [List.getElem?_append_right q] at e
    have hj : j = ms.length := by
      have := (List.getElem?_eq_some_iff.mp e).1
      rw [List.length_singleton] at this
      omega
    subst hj
    rw [Nat.sub_self] at e
    cases e
    exact h
theorem sum_le (f : Model → Nat) (b : Nat) : ∀ ms : List Model, (∀ m ∈ ms, f m ≤ b) → (ms.map f).sum ≤ b * ms.length
  | [], _ => Nat.zero_le _
  | m :: ms, h => by
    have h1 := h m List.mem_cons_self
    have h2 := sum_le f b ms fun x hx => h x (List.mem_cons_of_mem _ hx)
    rw [List.map_cons, List.sum_cons, List.length_cons, Nat.mul_succ]
    omega
theorem Made.fit {B : Nat → Str → Prop} {Nm wm n : Nat} {ms : List Model} (X : Made B Nm wm ms) (hB : ∀ j k c, j < k → B j c → B k c → False) (hl : ms.length ≤ n) (hn : n ≤ 72) (hw : wm ≤ 15) (hs : Nm * wm * n ≤ 1000) : Fit ms := by
  have get : ∀ m ∈ ms, ∃ j, ms[j]? = some m := fun m hm => List.mem_iff_getElem?.mp hm
  refine ⟨fun m hm => ?_, fun m hm => ?_, fun m hm => ?_, ?_, ?_, by omega⟩
  · obtain ⟨j, hj⟩ := get m hm
    exact (X.good j m hj).1
  · obtain ⟨j, hj⟩ := get m hm
    exact fun c hc => ((X.good j m hj).2.2.2 c hc).1
  · obtain ⟨j, hj⟩ := get m hm
    have := (X.good j m hj).2.2.1
    omega
  · refine Nat.le_trans (sum_le (fun m => m.N * m.ws.length) (Nm * wm) ms fun m hm => ?_) (Nat.le_trans (Nat.mul_le_mul_left _ hl) hs)
    obtain ⟨j, hj⟩ := get m hm
    exact Nat.mul_le_mul (X.good j m hj).2.1 (X.good j m hj).2.2.1
  · refine List.pairwise_iff_getElem.mpr fun i j hi hj hij c h1 h2 => ?_
    exact hB i j c hij ((X.good i _ (List.getElem?_eq_getElem hi)).2.2.2 c h1).2 ((X.good j _ (List.getElem?_eq_getElem hj)).2.2.2 c h2).2

section
variable {P : Program} {w : World} {K : PySem.W.Frag} {mg : Str → Option Value} {base : Heap} {CH CC : Addr}
/-- what gives a list of models -/
def rScene (p : Addr) (H : Hp) (Q : VK) : Prop := ∀ (H' : Hp) (l : Addr) (as : List Addr) (ms : List Model), Kp p H H' → H l = none → ModelsAt H' l as ms → Fit ms → Q (.ref l) H'

/-! ### _law_parts -/
def spParts : Sp := fun vs H Q _ => ∃ p : Addr, vs = [.ref p, .int 5, .int 8] ∧ Purse H p ∧ rScene p H Q
theorem scParts : FnScope ["_law_purse_here", "_law_upto", "_law_most", "_law_many", "_law_words_here", "_law_found", "_law_k", "_law_way", "_law_own", "_law_model"] ["_law_purse_here", "_law_upto", "_law_most"] (defScope sParts) := ⟨rfl, rfl, rfl, by decide +kernel, rfl, by decide +kernel, by decide +kernel⟩
abbrev pgS (p : Addr) (n : Nat) (wl fl : Addr) (v6 v7 v8 v9 : Option V) : L2.St := [some (.ref p), some (.int 5), some (.int 8), some (nv n), some (.ref wl), some (.ref fl), v6, v7, v8, v9]
theorem cut_mem {ws : List Str} {a n : Nat} {c : Str} (h : c ∈ (ws.drop a).take n) : ∃ t, a ≤ t ∧ t < a + n ∧ ws[t]? = some c := by
  obtain ⟨j, hj⟩ := List.mem_iff_getElem?.mp h
  have hj2 : j < n := by
    have := (List.getElem?_eq_some_iff.mp hj).1
    rw [List.length_take] at this
    omega
  rw [List.getElem?_take, if_pos hj2, List.getElem?_drop] at hj
  exact ⟨a + j, by omega, by omega, hj⟩
set_option maxHeartbeats 4000000 in
theorem ok_parts {f : Addr} {fd : FuncData} (F : L2.Fun K "_law_parts" "_law_parts" sParts f fd) (T : Txt K mg CH CC) (cD : Cal P w K mg base 1 "_law_draw" spDraw) (cW : Cal P w K mg base 2 "_law_words" spWords) (cP : Cal P w K mg base 2 "_law_part" spPart)
    (cR : Cal P w K mg base 2 "_law_renumbered" spRenum) (cX : Cal P w K mg base 1 "_law_crossed" spCrossed) : FnOk P w K mg base CX0 3 f fd ["_law_purse_here", "_law_upto", "_law_most"] spParts := by
  refine F.ok scParts (fun vs H Q E h => ?_) (fun cdv A outer s H vs Q E hr h => ?_)
  · obtain ⟨p, rfl, _⟩ := h
    rfl
  · obtain ⟨p, rfl, hp, q⟩ := h
    refine ⟨_, pss_cons (ps_par3 (i := 3) (j := 4) (l := 5) (by rfl) scParts.nd rfl rfl rfl (by decide) (by decide) (by decide) rfl rfl rfl
        (pa_cons (pe_c cD hr (by decide) (by rfl) (pa_cons (pv 0) (pa_cons (pe_op op_add (pv 1) pe_int) pa_nil))) (pa_cons (pe_c cW hr (by decide) (by rfl) (pa_cons (pv 0) (pa_cons (pe_op op_mul pe_int (pv 1)) pa_nil))) (pa_cons (pe_lst pa_nil) pa_nil))) (by rfl))
      (pss_cons (ps_for PassesOwn.never rfl (pi_range1 rfl T.zrange (pa_cons (pv 3) pa_nil)) (pg_name (i := 6) scParts.nd rfl (Or.inl rfl))
        (pss_cons (ps_par (i := 7) (j := 8) (by rfl) scParts.nd rfl rfl (by decide) rfl rfl (pa_cons (pe_c cD hr (by decide) (by rfl) (pa_cons (pv 0) (pa_cons pe_int pa_nil)))
            (pa_cons (pe_slice sl_list (pv 4) (po_some (pe_op op_mul pe_int (pv 6))) (po_some (pe_op op_add (pe_op op_add (pe_op op_mul pe_int (pv 6)) pe_int) (pe_c cD hr (by decide) (by rfl) (pa_cons (pv 0) (pa_cons pe_int pa_nil)))))) pa_nil)) (by rfl))
        (pss_cons (ps_if (PW.pt (pw_and (pt_cmpR op_eq (pv 7) pe_int (nomark _)) (pw_and1 (pt_cmpR op_gt (pe_callB call_len_seq (by rfl) T.zlen boot_len (pa_cons (pv 8) pa_nil)) pe_int (nomark _)))))
          (pss_one (ps_set (i := 9) scParts.nd rfl (Or.inl rfl) (pe_c cX hr (by decide) (by rfl) (pa_cons (pe_c cP hr (by decide) (by rfl) (pa_cons (pv 0) (pa_cons (pe_op op_fdiv (pv 2) pe_int) (pa_cons (pe_slice sl_list (pv 8) po_none (po_some (pe_un un_neg pe_int))) pa_nil))))
            (pa_cons (pe_c cP hr (by decide) (by rfl) (pa_cons (pv 0) (pa_cons pe_int (pa_cons (pe_slice sl_list (pv 8) (po_some (pe_un un_neg pe_int)) po_none) pa_nil)))) pa_nil)))))
          (pss_one (ps_set (i := 9) scParts.nd rfl (Or.inl rfl) (pe_c cP hr (by decide) (by rfl) (pa_cons (pv 0) (pa_cons (pv 2) (pa_cons (pv 8) pa_nil)))))))
        (pss_one (ps_expr (pe_bm PySem.F.plainAttrs_list PySem.F.slot_list_append PySem.F.type_list_append mt_append (pv 5) (pa_cons
          (pe_ifExp (pt_cmpR op_eq (pe_op op_mod (pv 7) pe_int) pe_int (nomark _)) (pe_c cR hr (by decide) (by rfl) (pa_cons (pv 0) (pa_cons (pv 9) pa_nil))) (pv 9)) pa_nil)))))))
      (pss_one (ps_ret (pv 5)))), ?_⟩
    have hsz : (4000 : Nat) < sizeLine := by decide
    dsimp only
    refine seq_cut (t := tPar3 _ _ _ _) (fun σ' H' => ∃ (n : Nat) (wl fl : Addr) (ws : List Str), σ' = pgS p n wl fl none none none none ∧ n ≤ 5 ∧ WordsOk ws ∧ Kp p H H' ∧ H wl = none ∧ H fl = none ∧ H' wl = some (.lst (ws.map V.str)) ∧ H' fl = some (.lst []) ∧ wl ≠ fl) (fun NX hNX => ?_) ?_
    · refine ⟨_, rfl, _, rfl, _, _, rfl, rfl, p, _, rfl, hp, by omega, by omega, fun n H1 hn k1 => ?_⟩
      refine ⟨_, rfl, _, rfl, _, _, rfl, rfl, .inl ⟨by decide, by decide⟩, p, rfl, k1.pur, fun ws H2 wl W k2 nw hwl => ?_⟩
      refine ⟨Nat.zero_le _, fun fl hfl => ⟨_, _, _, rfl, hNX _ _ ⟨n, wl, fl, ws, rfl, by omega, W, ?_⟩⟩⟩
      have k12 := k1.trans k2
      have hfl0 := k12.free hfl
      exact ⟨k12.up hp hfl0, k1.free nw, hfl0, at_in hwl hfl, upd_same, ne_of_none hwl hfl⟩
    rintro σ H1 ⟨n, wl, fl, ws, rfl, hn5, W, k1, hwl0, hfl0, hwl, hfl, hne⟩
    have hwp := hp.dne hwl0
    have hfp := hp.dne hfl0
    have hlen15 := W.len
    let B : Nat → Str → Prop := fun j c => ∃ t, 3 * j ≤ t ∧ t < 3 * j + 3 ∧ ws[t]? = some c
    have hB : ∀ j k c, j < k → B j c → B k c → False := fun j k c hjk ⟨t, t1, t2, t3⟩ ⟨u, u1, u2, u3⟩ => by
      obtain ⟨l1, q1⟩ := List.getElem?_eq_some_iff.mp t3
      obtain ⟨l2, q2⟩ := List.getElem?_eq_some_iff.mp u3
      have : t = u := (List.getElem_inj W.nd).mp (q1.trans q2.symm)
      omega
    refine seq_cut (t := tFor _ _ _) (fun σ' H' => ∃ (as : List Addr) (ms : List Model) (v6 v7 v8 v9 : Option V), σ' = pgS p n wl fl v6 v7 v8 v9 ∧ Kp p H H' ∧ ModelsAt H' fl as ms ∧ Made B 8 3 ms ∧ ms.length ≤ 5) (fun NX hNX => ?_) ?_
    · refine ⟨_, rfl, (n : Int), rfl, by omega, by omega, ?_⟩
      refine for_range (lo := 0) (n := (n : Int).toNat) (fun i σ' H' => ∃ (as : List Addr) (ms : List Model) (v6 v7 v8 v9 : Option V), σ' = pgS p n wl fl v6 v7 v8 v9 ∧ Kp p H H' ∧ H' wl = some (.lst (ws.map V.str)) ∧ ModelsAt H' fl as ms ∧ Made B 8 3 ms ∧ ms.length = i)
        ⟨[], [], none, none, none, none, rfl, k1, hwl, ⟨hfl, .nil⟩, Made.nil, rfl⟩ ?_ ?_
      · clear k1 hwl hfl hNX
        rintro i σ H2 hi ⟨as, ms, v6, v7, v8, v9, rfl, k2, hwl, M, X, hml⟩
        have hi5 : i < 5 := by omega
        rw [show (0 : Int) + ((i : Nat) : Int) = ((i : Nat) : Int) from Int.zero_add _]
        dsimp only [gName]
        -- way, own
        refine seq_cut (t := tPar _ _ _) (fun σ' H' => ∃ (wy r : Nat) (ow : Addr) (own : List Str), σ' = pgS p n wl fl (some (nv i)) (some (nv wy)) (some (.ref ow)) v9 ∧ Kp p H H' ∧ H' wl = some (.lst (ws.map V.str)) ∧ ModelsAt H' fl as ms ∧ H' ow = some (.lst (own.map V.str)) ∧ own = (ws.drop (3 * i)).take (1 + r) ∧ r < 3) (fun NX hNX => ?_) ?_
        · refine ⟨_, rfl, p, 4, rfl, k2.pur, by decide, by decide, fun wy H3 hwy k3 => ?_⟩
          refine ⟨_, rfl, _, rfl, _, _, rfl, rfl, .inl ⟨by decide, by decide⟩, _, rfl, ?_⟩
          refine ⟨_, rfl, _, _, rfl, rfl, .inl ⟨by decide, by decide⟩, _, _, rfl, rfl, _, rfl, p, 3, rfl, k3.pur, by decide, by decide, fun r H4 hr4 k4 => ?_⟩
          have hr3 : r < 3 := by omega
          have hwl4 := k4.keep _ _ (k3.keep _ _ hwl hwp) hwp
          have ec : cutV (ws.map V.str) (some (3 * ((i : Nat) : Int))) (some (3 * ((i : Nat) : Int) + 1 + ((r : Nat) : Int))) = ((ws.drop (3 * i)).take (1 + r)).map V.str := by
            rw [cutV_map]
            unfold cutL
            rw [show 3 * ((i : Nat) : Int) = ((3 * i : Nat) : Int) by omega, show ((3 * i : Nat) : Int) + 1 + ((r : Nat) : Int) = ((3 * i + 1 + r : Nat) : Int) by omega, sIx0 _ _ _ (by omega), sIx0 _ _ _ (by omega)]
            rw [show 3 * i + 1 + r - 3 * i = 1 + r by omega]
          refine ⟨_, _, rfl, rfl, _, rfl, wl, _, rfl, SqL.of hwl4, fun ow how => ?_⟩
          rw [ec]
          have k24 := k2.trans (k3.trans k4)
          refine ⟨_, _, rfl, hNX _ _ ⟨wy, r, ow, _, rfl, k24.up hp (k24.free how), at_in hwl4 how, ?_, upd_same, rfl, hr3⟩⟩
          exact ((M.kp k2.pur k3).kp k3.pur k4).same (same_upd how)
        clear k2 hwl M
        rintro σ H3 ⟨wy, r, ow, own, rfl, k3, hwl, M, how, rfl, hr3⟩
        have hol : ((ws.drop (3 * i)).take (1 + r)).length = 1 + r := by
          rw [List.length_take, List.length_drop]
          omega
        have hoB : ∀ c ∈ (ws.drop (3 * i)).take (1 + r), Colour c ∧ B ms.length c := fun c hc => by
          obtain ⟨t, t1, t2, t3⟩ := cut_mem hc
          exact ⟨W.col c (List.mem_of_getElem? t3), t, by omega, by omega, t3⟩
        have hond : ((ws.drop (3 * i)).take (1 + r)).Nodup := (W.nd.sublist (List.drop_sublist _ _)).sublist (List.take_sublist _ _)
        revert how hol hoB hond
        generalize (ws.drop (3 * i)).take (1 + r) = own
        intro how hol hoB hond
        -- the model
        refine seq_cut (t := tIfS _ _ _) (fun σ' H' => ∃ (ma : Addr) (m : Model), σ' = pgS p n wl fl (some (nv i)) (some (nv wy)) (some (.ref ow)) (some (.ref ma)) ∧ Kp p H H' ∧ H' wl = some (.lst (ws.map V.str)) ∧ ModelsAt H' fl as ms ∧ ModelAt H' ma m ∧ m.ws = own ∧ Good m.N m.ws m.E ∧ m.N ≤ 8) (fun NX hNX => ?_) ?_
        · have els : (tAsg (tCall spPart [] E0 (tCons (tVar 0) (tCons (tVar 2) (tCons (tVar 8) tNil)))) (gName 9)) ⟨NX, fun _ _ => False, fun _ _ => False, fun _ _ => False⟩ (pgS p n wl fl (some (nv i)) (some (nv wy)) (some (.ref ow)) v9) H3 := by
            refine ⟨_, rfl, _, rfl, _, rfl, p, ow, 8, own, rfl, k3.pur, how, by omega, by omega, fun c hc => (hoB c hc).1, by decide, by decide, fun H4 ma N E' k4 nq MA GA hN => ?_⟩
            refine hNX _ _ ⟨ma, ⟨N, own, E'⟩, rfl, k3.trans k4, k4.keep _ _ hwl hwp, M.kp k3.pur k4, MA, rfl, ⟨GA, by show N ≤ 64; omega⟩, by show N ≤ 8; omega⟩
          refine ⟨_, rfl, rfl, _, rfl, ?_⟩
          refine ite2 (fun _ => ?_) (fun _ => iteF els)
          refine ⟨_, rfl, ow, _, rfl, .inl (SqL.of how), _, _, rfl, rfl, _, rfl, ?_⟩
          rw [List.length_map]
          refine ite2 (fun hgt => ?_) (fun _ => els)
          have hgt := of_decide_eq_true hgt
          have hl2 : 1 < own.length := by omega
          -- crossed
          have c1 : cutV (own.map V.str) none (some (-1)) = (own.take (own.length - 1)).map V.str := by
            rw [cutV_map]
            unfold cutL
            have e : HT.sIx own.length own.length (some (-1)) = own.length - 1 := by
              show (if (-1 : Int) < 0 then ((-1 : Int) + (own.length : Nat)).toNat else min (-1 : Int).toNat own.length) = _
              rw [if_pos (by decide)]
              omega
            rw [e]
            rfl
          have c2 : cutV (own.map V.str) (some (-1)) none = (own.drop (own.length - 1)).map V.str := by
            rw [cutV_map]
            unfold cutL
            have e : HT.sIx own.length 0 (some (-1)) = own.length - 1 := by
              show (if (-1 : Int) < 0 then ((-1 : Int) + (own.length : Nat)).toNat else min (-1 : Int).toNat own.length) = _
              rw [if_pos (by decide)]
              omega
            rw [e, HT.sIx_none, List.take_of_length_le (by rw [List.length_drop]; exact Nat.le_refl _)]
          refine ⟨_, rfl, _, rfl, _, _, rfl, rfl, ⟨by decide, by decide⟩, _, rfl, _, rfl, _, rfl, ow, _, rfl, SqL.of how, fun w1 hw1 => ?_⟩
          have k4 : Kp p H (upd H3 w1 (.lst (cutV (own.map V.str) none (some (-1))))) := k3.up hp (k3.free hw1)
          have s4 : Same H3 (upd H3 w1 (.lst (cutV (own.map V.str) none (some (-1))))) := same_upd hw1
          refine ⟨p, w1, _, own.take (own.length - 1), rfl, k4.pur, by rw [upd_same, c1], by rw [List.length_take]; omega, by rw [List.length_take]; omega, fun c hc => (hoB c (List.mem_of_mem_take hc)).1, by decide, by decide, fun H5 a1 N1 E1 k5 nq1 MA1 GA1 hN1 => ?_⟩
          have k45 := k4.trans k5
          have hwl5 := k5.keep _ _ (s4 _ _ hwl) hwp
          have how5 : H5 ow = some (.lst (own.map V.str)) := k5.at k4.pur (s4 _ _ how) (strs_ne _)
          have M5 := (M.same s4).kp k4.pur k5
          refine ⟨_, rfl, _, rfl, _, rfl, _, rfl, ow, _, rfl, SqL.of how5, fun w2 hw2 => ?_⟩
          have k6 : Kp p H (upd H5 w2 (.lst (cutV (own.map V.str) (some (-1)) none))) := k45.up hp (k45.free hw2)
          have s6 : Same H5 (upd H5 w2 (.lst (cutV (own.map V.str) (some (-1)) none))) := same_upd hw2
          refine ⟨p, w2, _, own.drop (own.length - 1), rfl, k6.pur, by rw [upd_same, c2], by rw [List.length_drop]; omega, by rw [List.length_drop]; omega, fun c hc => (hoB c (List.mem_of_mem_drop hc)).1, by decide, by decide, fun H7 a2 N2 E2 k7 nq2 MA2 GA2 hN2 => ?_⟩
          have k67 := k6.trans k7
          have MA1' := (MA1.mono (Le.of_same s6)).mono (Le.of_kp k7 k6.pur)
          have hN1' : (N1 : Int) ≤ 4 := hN1
          refine ⟨a1, a2, _, _, rfl, MA1', MA2, GA1, GA2, by show N1 ≤ 4; omega, by show N2 ≤ 2; omega, by rw [List.length_take]; omega, by rw [List.length_drop]; omega, fun c h1 h2 => ?_, fun H8 ma E' s8 nq MA GA => ?_⟩
          · have := List.nodup_append.mp (by rw [List.take_append_drop]; exact hond : (own.take (own.length - 1) ++ own.drop (own.length - 1)).Nodup)
            exact this.2.2 c h1 c h2 rfl
          · have ht := GA1.two
            have hN12 : N1 * N2 ≤ 8 := Nat.mul_le_mul (by omega : N1 ≤ 4) (by omega : N2 ≤ 2)
            refine hNX _ _ ⟨ma, _, rfl, k67.same s8, s8 _ _ (k7.keep _ _ (s6 _ _ hwl5) hwp), ((M5.same s6).kp k6.pur k7).same s8, MA, List.take_append_drop _ _, ⟨GA, by show N1 * N2 ≤ 64; omega⟩, hN12⟩
        clear k3 hwl M how
        rintro σ H4 ⟨ma, m, rfl, k4, hwl, M, MA, hmw, GA, hN8⟩
        have hal : as.length = ms.length := M.d.length
        have hle : Le H4 H4 := Le.refl _
        -- found.append(..)
        have app : ∀ (H5 : Hp) (xa : Addr) (E' : Ends), Kp p H H5 → H5 wl = some (.lst (ws.map V.str)) → ModelsAt H5 fl as ms → ModelAt H5 xa ⟨m.N, m.ws, E'⟩ → Good m.N m.ws E' →
            ∃ (as' : List Addr) (ms' : List Model) (v6 v7 v8 v9 : Option V), pgS p n wl fl (some (nv i)) (some (nv wy)) (some (.ref ow)) (some (.ref ma)) = pgS p n wl fl v6 v7 v8 v9 ∧ Kp p H (upd H5 fl (.lst (as.map V.ref ++ [.ref xa]))) ∧ (upd H5 fl (.lst (as.map V.ref ++ [.ref xa]))) wl = some (.lst (ws.map V.str)) ∧ ModelsAt (upd H5 fl (.lst (as.map V.ref ++ [.ref xa]))) fl as' ms' ∧ Made B 8 3 ms' ∧ ms'.length = i + 1 := by
          intro H5 xa E' k5 hwl5 M5 MX GX
          have le := Le.lst (o := .lst (as.map V.ref ++ [.ref xa])) M5.l
          refine ⟨as ++ [xa], ms ++ [⟨m.N, m.ws, E'⟩], _, _, _, _, rfl, k5.up hp hfl0, by rw [upd_ne hne]; exact hwl5, ⟨by rw [upd_same, map_snoc], (Paired.mapP M5.d fun a m h => h.mono le).snoc (MX.mono le)⟩, X.snoc ⟨GX, hN8, by show m.ws.length ≤ 3; rw [hmw]; omega, fun c hc => hoB c (by rw [← hmw]; exact hc)⟩, by rw [List.length_append, List.length_singleton, hml]⟩
        have hfl4 := M.l
        refine ⟨_, rfl, .inl ⟨rfl, _, SqL.of hfl4⟩, _, rfl, _, _, rfl, rfl, by show (0 : Int) < 2; decide, rfl, _, rfl, ?_⟩
        refine ite2 (fun _ => ?_) (fun _ => ?_)
        · refine ⟨_, rfl, _, rfl, p, ma, m, rfl, k4.pur, MA, GA, by rw [hmw]; omega, fun H5 xa E' k5 nq MX GX => ?_⟩
          have M5 := M.kp k4.pur k5
          refine ⟨fl, _, _, rfl, rfl, M5.l, by rw [List.length_map]; omega, ?_⟩
          exact app H5 xa E' (k4.trans k5) (k5.keep _ _ hwl hwp) M5 MX GX
        · refine ⟨_, rfl, fl, _, _, rfl, rfl, hfl4, by rw [List.length_map]; omega, ?_⟩
          exact app H4 ma m.E k4 hwl M MA GA
      · rintro σ H2 ⟨as, ms, v6, v7, v8, v9, rfl, k2, hwl, M, X, hml⟩
        exact hNX _ _ ⟨as, ms, _, _, _, _, rfl, k2, M, X, by omega⟩
    rintro σ H2 ⟨as, ms, v6, v7, v8, v9, rfl, k2, M, X, hml⟩
    exact ⟨_, rfl, q H2 fl as ms k2 hfl0 M (X.fit hB hml (by decide) (by decide) (by decide))⟩
end
end DL

/-! the law's wide, lines, scene -/
namespace DL
open PySem L2 DI DO DS SX

section
variable {P : Program} {w : World} {K : PySem.W.Frag} {mg : Str → Option Value} {base : Heap} {CH CC : Addr}

/-! ### _law_wide -/
def wcode (f n : Nat) : Str := S [97 + f, 97 + n / 26, 97 + n % 26]
theorem wcode_inj {f n n' : Nat} (e : wcode f n = wcode f n') : n = n' := by
  have h := S_inj e
  injection h with _ h
  injection h with h1 h
  injection h with h2 _
  have := Nat.div_add_mod n 26
  have := Nat.div_add_mod n' 26
  omega
theorem wcode_col {f n : Nat} (hf : f < 26) (hn : n < 676) : Colour (wcode f n) := by
  refine ⟨by unfold wcode; rw [S_len]; show 1 ≤ 3; decide, by unfold wcode; rw [S_len]; show 3 ≤ 6; decide, fun x hx => ?_⟩
  have hx : x ∈ [97 + f, 97 + n / 26, 97 + n % 26] := hx
  have h1 : n / 26 < 26 := Nat.div_lt_of_lt_mul hn
  have h2 : n % 26 < 26 := Nat.mod_lt _ (by decide)
  rcases List.mem_cons.mp hx with z | z
  · omega
  · rcases List.mem_cons.mp z with z | z
    · omega
    · rw [List.mem_singleton.mp z]
      omega
def spWide : Sp := fun vs H Q _ => ∃ p : Addr, vs = [.ref p, .int 72, .int 4] ∧ Purse H p ∧ rScene p H Q
theorem scWide : FnScope ["_law_purse_here", "_law_many", "_law_most", "_law_letters", "_law_found", "_law_first", "_law_k", "_law_own", "_law_j"] ["_law_purse_here", "_law_many", "_law_most"] (defScope sWide) := ⟨rfl, rfl, rfl, by decide +kernel, rfl, by decide +kernel, by decide +kernel⟩
abbrev wg (p fl : Addr) (c : Str) (v6 v7 v8 : Option V) : L2.St := [some (.ref p), some (.int 72), some (.int 4), some (.str letters), some (.ref fl), some (.str c), v6, v7, v8]
set_option maxHeartbeats 4000000 in
theorem ok_wide {f : Addr} {fd : FuncData} (F : L2.Fun K "_law_wide" "_law_wide" sWide f fd) (T : Txt K mg CH CC) (cD : Cal P w K mg base 1 "_law_draw" spDraw) (cP : Cal P w K mg base 2 "_law_part" spPart) : FnOk P w K mg base CX0 3 f fd ["_law_purse_here", "_law_many", "_law_most"] spWide := by
  refine F.ok scWide (fun vs H Q E h => ?_) (fun cdv A outer s H vs Q E hr h => ?_)
  · obtain ⟨p, rfl, _⟩ := h
    rfl
  · obtain ⟨p, rfl, hp, q⟩ := h
    refine ⟨_, pss_cons (ps_asg (pe_tup (pa_cons pe_str (pa_cons (pe_lst pa_nil) pa_nil))) (pg_tup rfl (pgs_cons (pg_name (i := 3) scWide.nd rfl (Or.inr rfl)) (pgs_cons (pg_name (i := 4) scWide.nd rfl (Or.inl rfl)) pgs_nil))))
      (pss_cons (ps_set (i := 5) scWide.nd rfl (Or.inr rfl) (pe_ix ix_str (pv 3) (pe_c cD hr (by decide) (by rfl) (pa_cons (pv 0) (pa_cons pe_int pa_nil))) (fun _ _ => rfl)))
      (pss_cons (ps_for PassesOwn.never rfl (pi_range1 rfl T.zrange (pa_cons (pv 1) pa_nil)) (pg_name (i := 6) scWide.nd rfl (Or.inr rfl))
        (pss_cons (ps_setLc (i := 7) (own := [("_law_j", 8)]) (g := gName 8) (tt := tYes) (by rfl) scWide.nd rfl rfl (sw_true rfl rfl rfl (by decide +kernel)) (pi_range1 rfl T.zrange (pa_cons (pe_op op_add pe_int (pe_c cD hr (by decide) (by rfl) (pa_cons (pv 0) (pa_cons pe_int pa_nil)))) pa_nil))
            (blkOk_by (N := ["_law_purse_here", "_law_many", "_law_most", "_law_letters", "_law_found", "_law_first", "_law_k", "_law_own", "_law_j"]) (sc := defScope sWide) (by decide +kernel)) (fun _ _ _ _ _ => pg_name (i := 8) scWide.nd rfl (Or.inl rfl)) (fun _ _ _ _ _ => pts_nil)
            (fun _ _ _ _ _ => pe_op op_add_str (pe_op op_add_str (pv 5) (pe_ix ix_str (pv 3) (pe_op op_fdiv (pe_op op_add (pe_op op_mul pe_int (pv 6)) (pv 8)) pe_int) (fun _ _ => rfl)))
              (pe_ix ix_str (pv 3) (pe_op op_mod (pe_op op_add (pe_op op_mul pe_int (pv 6)) (pv 8)) pe_int) (fun _ _ => rfl))))
        (pss_one (ps_expr (pe_bm PySem.F.plainAttrs_list PySem.F.slot_list_append PySem.F.type_list_append mt_append (pv 4) (pa_cons (pe_c cP hr (by decide) (by rfl) (pa_cons (pv 0) (pa_cons (pv 2) (pa_cons (pv 7) pa_nil)))) pa_nil))))))
      (pss_one (ps_ret (pv 4))))), ?_⟩
    have hsz : (4000 : Nat) < sizeLine := by decide
    have hls : letters.length ≤ sizeLine := by decide
    dsimp only
    refine seq_cut (t := tAsg _ _) (fun σ' H' => ∃ fl : Addr, σ' = [some (.ref p), some (.int 72), some (.int 4), some (.str letters), some (.ref fl), none, none, none, none] ∧ Kp p H H' ∧ H fl = none ∧ H' fl = some (.lst [])) (fun NX hNX => ?_) ?_
    · refine ⟨Nat.zero_le _, fun fl hfl => ⟨by show 2 ≤ sizeLine; decide, fun t ht => ⟨t, _, rfl, SqT.of upd_same, rfl, _, _, rfl, _, _, rfl, rfl, hNX _ _ ⟨fl, rfl, ?_, hfl, at_in upd_same ht⟩⟩⟩⟩
      have k1 : Kp p H (upd H fl (.lst [])) := (Kp.refl hp).up hp hfl
      exact k1.up hp (k1.free ht)
    rintro σ H1 ⟨fl, rfl, k1, hfl0, hfl⟩
    have hfp := hp.dne hfl0
    refine seq_cut (t := tAsg _ _) (fun σ' H' => ∃ fi : Nat, σ' = wg p fl (S [97 + fi]) none none none ∧ Kp p H H' ∧ H' fl = some (.lst []) ∧ fi < 26) (fun NX hNX => ?_) ?_
    · refine ⟨_, rfl, _, rfl, p, 26, rfl, k1.pur, by decide, by decide, fun fi H2 hfi k2 => ?_⟩
      exact ⟨letters, _, 97 + fi, rfl, rfl, hls, letter_at fi (by omega), hNX _ _ ⟨fi, rfl, k1.trans k2, k2.keep _ _ hfl hfp, by omega⟩⟩
    clear k1 hfl
    rintro σ H1 ⟨fi, rfl, k1, hfl, hfi⟩
    let B : Nat → Str → Prop := fun j c => ∃ n, n / 2 = j ∧ c = wcode fi n
    have hB : ∀ j k c, j < k → B j c → B k c → False := fun j k c hjk ⟨n, n1, n2⟩ ⟨n', m1, m2⟩ => by
      have := wcode_inj (n2.symm.trans m2)
      omega
    refine ⟨_, rfl, 72, rfl, by decide, by decide, ?_⟩
    refine for_range (lo := 0) (n := 72) (fun i σ' H' => ∃ (as : List Addr) (ms : List Model) (v6 v7 v8 : Option V), σ' = wg p fl (S [97 + fi]) v6 v7 v8 ∧ Kp p H H' ∧ ModelsAt H' fl as ms ∧ Made B 4 2 ms ∧ ms.length = i)
      ⟨[], [], none, none, none, rfl, k1, ⟨hfl, .nil⟩, Made.nil, rfl⟩ ?_ ?_
    · clear k1 hfl
      rintro i σ H2 hi ⟨as, ms, v6, v7, v8, rfl, k2, M, X, hml⟩
      rw [show (0 : Int) + ((i : Nat) : Int) = ((i : Nat) : Int) from Int.zero_add _]
      dsimp only [gName]
      refine seq_cut (t := tAsg _ _) (fun σ' H' => ∃ (r : Nat) (ow : Addr) (own : List Str) (v8 : Option V), σ' = wg p fl (S [97 + fi]) (some (nv i)) (some (.ref ow)) v8 ∧ Kp p H H' ∧ ModelsAt H' fl as ms ∧ H' ow = some (.lst (own.map V.str)) ∧ own = (List.range (1 + r)).map (fun j => wcode fi (2 * i + j)) ∧ r < 2) (fun NX hNX => ?_) ?_
      · refine ⟨_, rfl, p, 2, rfl, k2.pur, by decide, by decide, fun r H3 hr3 k3 => ?_⟩
        have hr2 : r < 2 := by omega
        have k23 := k2.trans k3
        have M3 := M.kp k2.pur k3
        refine ⟨_, _, rfl, rfl, (1 + (r : Nat) : Int), rfl, by omega, by omega, fun D hD => ?_⟩
        refine lc_range (lo := 0) (n := (1 + (r : Nat) : Int).toNat) (fun j H' => Same H3 H' ∧ H' D = some (.lst (((List.range j).map fun j => wcode fi (2 * i + j)).map V.str))) ⟨same_upd hD, upd_same⟩ ?_ ?_
        · rintro j H4 hj ⟨sm, hd⟩
          have hj2 : j < 2 := by omega
          have h26 : (2 * i + j) / 26 < 26 := by omega
          have hat1 : atI letters.cps.toList ((2 * (i : Nat) + (0 + (j : Nat)) : Int) / 26) = some (97 + (2 * i + j) / 26) := by
            rw [show (2 * ((i : Nat) : Int) + (0 + ((j : Nat) : Int))) / 26 = (((2 * i + j) / 26 : Nat) : Int) by omega]
            exact letter_at _ h26
          have hat2 : atI letters.cps.toList ((2 * (i : Nat) + (0 + (j : Nat)) : Int) % 26) = some (97 + (2 * i + j) % 26) := by
            rw [show (2 * ((i : Nat) : Int) + (0 + ((j : Nat) : Int))) % 26 = (((2 * i + j) % 26 : Nat) : Int) by omega]
            exact letter_at _ (by omega)
          refine ⟨rfl, tyes ?_⟩
          refine ⟨_, rfl, _, rfl, _, rfl, _, _, rfl, rfl, .inl ⟨by decide, by decide⟩, _, rfl, _, _, rfl, rfl, _, _, rfl, rfl, ⟨by decide, by decide⟩, letters, _, _, rfl, rfl, hls, hat1, ?_⟩
          refine ⟨_, _, rfl, rfl, by show 1 + 1 ≤ sizeLine; decide, ?_⟩
          refine ⟨_, rfl, _, rfl, _, _, rfl, rfl, .inl ⟨by decide, by decide⟩, _, rfl, _, _, rfl, rfl, _, _, rfl, rfl, by show (0 : Int) < 26; decide, letters, _, _, rfl, rfl, hls, hat2, ?_⟩
          refine ⟨_, _, rfl, rfl, by show 2 + 1 ≤ sizeLine; decide, ?_⟩
          refine ⟨_, hd, by rw [List.length_map, List.length_map, List.length_range]; omega, same_in sm hD, ?_⟩
          rw [upd_same, List.range_succ, map_snoc, map_snoc]
          rfl
        · rintro H4 ⟨sm, hd⟩
          refine hNX _ _ ⟨r, D, _, _, rfl, k23.same sm, M3.same sm, hd, ?_, hr2⟩
          rw [show (1 + (r : Nat) : Int).toNat = 1 + r by omega]
      clear k2 M
      rintro σ H3 ⟨r, ow, own, v8, rfl, k3, M, how, hown, hr2⟩
      have hol : own.length = 1 + r := by rw [hown, List.length_map, List.length_range]
      have hoB : ∀ c ∈ own, Colour c ∧ B ms.length c := fun c hc => by
        rw [hown] at hc
        obtain ⟨j, hj, rfl⟩ := List.mem_map.mp hc
        have hj := List.mem_range.mp hj
        exact ⟨wcode_col hfi (by omega), 2 * i + j, by omega, rfl⟩
      have hal : as.length = ms.length := M.d.length
      refine ⟨_, rfl, .inl ⟨rfl, _, SqL.of M.l⟩, _, rfl, _, rfl, _, rfl, p, ow, 4, own, rfl, k3.pur, how, by omega, by omega, fun c hc => (hoB c hc).1, by decide, by decide, fun H4 ma N E' k4 nq MA GA hN => ?_⟩
      have M4 := M.kp k3.pur k4
      refine ⟨fl, _, _, rfl, rfl, M4.l, by rw [List.length_map]; omega, ?_⟩
      have le := Le.lst (o := .lst (as.map V.ref ++ [.ref ma])) M4.l
      refine ⟨as ++ [ma], ms ++ [⟨N, own, E'⟩], _, _, _, rfl, (k3.trans k4).up hp hfl0, ⟨by rw [upd_same, map_snoc], (Paired.mapP M4.d fun a m h => h.mono le).snoc (MA.mono le)⟩, X.snoc ⟨⟨GA, by show N ≤ 64; omega⟩, by show N ≤ 4; omega, by show own.length ≤ 2; omega, hoB⟩, by rw [List.length_append, List.length_singleton, hml]⟩
    · rintro σ H2 ⟨as, ms, v6, v7, v8, rfl, k2, M, X, hml⟩
      exact ⟨_, rfl, q H2 fl as ms k2 hfl0 M (X.fit hB (by omega : ms.length ≤ 72) (by decide) (by decide) (by decide))⟩

/-! ### _law_lines -/
def lw (k h : Nat) : Str := S [112 + h % 2, 97 + k]
theorem lw_inj {k h k' h' : Nat} (e : lw k h = lw k' h') : k = k' ∧ h % 2 = h' % 2 := by
  have h := S_inj e
  injection h with h1 h
  injection h with h2 _
  exact ⟨by omega, by omega⟩
theorem lw_col {k h : Nat} (hk : k < 3) : Colour (lw k h) := by
  refine ⟨by unfold lw; rw [S_len]; show 1 ≤ 2; decide, by unfold lw; rw [S_len]; show 2 ≤ 6; decide, fun x hx => ?_⟩
  have hx : x ∈ [112 + h % 2, 97 + k] := hx
  rcases List.mem_cons.mp hx with z | z
  · omega
  · rw [List.mem_singleton.mp z]
    omega
/-- a row of halls, each with a door to the next -/
def Row (k : Nat) (h : Nat) (E : Ends) : Prop := (h = 0 ∧ E = fun _ _ => none) ∨ (1 ≤ h ∧ Dm.House (h + 1) (· ∈ [lw k 0, lw k 1]) E ∧ ∀ c x, E h c = some x → c = lw k (h - 1))
theorem lw_in (k h : Nat) : lw k h ∈ [lw k 0, lw k 1] := by
  rcases (show h % 2 = 0 ∨ h % 2 = 1 by omega) with e | e
  · have : lw k h = lw k 0 := by unfold lw; rw [e]
    rw [this]
    exact List.mem_cons_self
  · have : lw k h = lw k 1 := by unfold lw; rw [e]
    rw [this]
    exact List.mem_cons_of_mem _ List.mem_cons_self
theorem Row.next {k h : Nat} {E : Ends} (R : Row k h E) : Row k (h + 1) (Dm.door E h (lw k h) (h + 1)) := by
  rcases R with ⟨rfl, rfl⟩ | ⟨h1, G, hc⟩
  · refine .inr ⟨by omega, Dm.House.two_ (lw_in k 0), fun c x e => ?_⟩
    rcases Dm.door_cases e with ⟨_, e2, _⟩ | ⟨e1, _, _⟩ | e
    · exact e2
    · omega
    · cases e
  · have en : E h (lw k h) = none := by
      cases e : E h (lw k h) with
      | none => rfl
      | some x =>
        have := (lw_inj (hc _ _ e)).2
        omega
    refine .inr ⟨by omega, G.grow (by omega) (lw_in k h) en, fun c x e => ?_⟩
    rcases Dm.door_cases e with ⟨_, e2, _⟩ | ⟨e1, _, _⟩ | e
    · exact e2
    · omega
    · have := (G.lt _ _ _ e).1
      omega
def spLines : Sp := fun vs H Q _ => ∃ p : Addr, vs = [.ref p] ∧ Purse H p ∧ rScene p H Q
theorem scLines : FnScope ["_law_purse_here", "_law_found", "_law_k", "_law_size", "_law_ends", "_law_hall", "_law_word"] ["_law_purse_here"] (defScope sLines) := ⟨rfl, rfl, rfl, by decide +kernel, rfl, by decide +kernel, by decide +kernel⟩
abbrev lg (p fl : Addr) (v2 v3 v4 v5 v6 : Option V) : L2.St := [some (.ref p), some (.ref fl), v2, v3, v4, v5, v6]
theorem pq_at (h : Nat) : atI (("pq" : Str).cps.toList) (((h : Nat) : Int) % 2) = some (112 + h % 2) := by
  rw [show ((h : Nat) : Int) % 2 = ((h % 2 : Nat) : Int) by omega]
  have q : ∀ k : Fin 2, (("pq" : Str).cps.toList)[k.val]? = some (112 + k.val) := by decide +kernel
  exact atI_nat (q ⟨h % 2, by omega⟩)
theorem abc_at (k : Nat) (hk : k < 3) : atI (("abc" : Str).cps.toList) ((k : Nat) : Int) = some (97 + k) := by
  have q : ∀ k : Fin 3, (("abc" : Str).cps.toList)[k.val]? = some (97 + k.val) := by decide +kernel
  exact atI_nat (q ⟨k, hk⟩)
set_option maxHeartbeats 4000000 in
theorem ok_lines {f : Addr} {fd : FuncData} (F : L2.Fun K "_law_lines" "_law_lines" sLines f fd) (T : Txt K mg CH CC) (cD : Cal P w K mg base 1 "_law_draw" spDraw) : FnOk P w K mg base CX0 2 f fd ["_law_purse_here"] spLines := by
  refine F.ok scLines (fun vs H Q E h => ?_) (fun cdv A outer s H vs Q E hr h => ?_)
  · obtain ⟨p, rfl, _⟩ := h
    rfl
  · obtain ⟨p, rfl, hp, q⟩ := h
    have hu := hu_of hr
    refine ⟨_, pss_cons (ps_set (i := 1) scLines.nd rfl (Or.inl rfl) (pe_lst pa_nil))
      (pss_cons (ps_for PassesOwn.never rfl (pi_range1 rfl T.zrange (pa_cons (pe_op op_add pe_int (pe_c cD hr (by decide) (by rfl) (pa_cons (pv 0) (pa_cons pe_int pa_nil)))) pa_nil)) (pg_name (i := 2) scLines.nd rfl (Or.inl rfl))
        (pss_cons (ps_par (i := 3) (j := 4) (by rfl) scLines.nd rfl rfl (by decide) rfl rfl (pa_cons (pe_op op_sub pe_int (pe_c cD hr (by decide) (by rfl) (pa_cons (pv 0) (pa_cons pe_int pa_nil)))) (pa_cons pe_dnewT pa_nil)) (by rfl))
        (pss_cons (ps_for PassesOwn.never rfl (pi_range1 rfl T.zrange (pa_cons (pe_op op_sub (pv 3) pe_int) pa_nil)) (pg_name (i := 5) scLines.nd rfl (Or.inl rfl))
          (pss_cons (ps_set (i := 6) scLines.nd rfl (Or.inl rfl) (pe_op op_add_str (pe_ix ix_str pe_str (pe_op op_mod (pv 5) pe_int) (fun _ _ => rfl)) (pe_ix ix_str pe_str (pv 2) (fun _ _ => rfl))))
          (pss_cons (ps_dput hu (pv 4) (pe_tup (pa_cons (pv 5) (pa_cons (pv 6) pa_nil))) (pe_op op_add (pv 5) pe_int) rfl)
          (pss_one (ps_dput hu (pv 4) (pe_tup (pa_cons (pe_op op_add (pv 5) pe_int) (pa_cons (pv 6) pa_nil))) (pv 5) rfl)))))
        (pss_one (ps_expr (pe_bm PySem.F.plainAttrs_list PySem.F.slot_list_append PySem.F.type_list_append mt_append (pv 1) (pa_cons (pe_tup (pa_cons (pv 3) (pa_cons (pv 4) pa_nil))) pa_nil)))))))
      (pss_one (ps_ret (pv 1)))), ?_⟩
    have hsz : (4000 : Nat) < sizeLine := by decide
    have hsz2 : 2 ≤ sizeLine := by decide
    refine ⟨Nat.zero_le _, fun fl hfl0 => ?_⟩
    have hfp := hp.dne hfl0
    have k1 : Kp p H (upd H fl (.lst [])) := (Kp.refl hp).up hp hfl0
    have hfl : (upd H fl (.lst [])) fl = some (.lst []) := upd_same
    revert k1 hfl
    dsimp only
    generalize upd H fl (.lst []) = H1
    intro k1 hfl
    let B : Nat → Str → Prop := fun j c => ∃ h, c = lw j h
    have hB : ∀ j k c, j < k → B j c → B k c → False := fun j k c hjk ⟨h, h1⟩ ⟨h', h2⟩ => by
      have := (lw_inj (h1.symm.trans h2)).1
      omega
    refine ⟨_, rfl, p, 3, rfl, k1.pur, by decide, by decide, fun n H2 hn k2 => ?_⟩
    refine ⟨_, _, rfl, rfl, (1 + (n : Nat) : Int), rfl, by omega, by omega, ?_⟩
    refine for_range (lo := 0) (n := (1 + (n : Nat) : Int).toNat) (fun i σ' H' => ∃ (as : List Addr) (ms : List Model) (v2 v3 v4 v5 v6 : Option V), σ' = lg p fl v2 v3 v4 v5 v6 ∧ Kp p H H' ∧ ModelsAt H' fl as ms ∧ Made B 64 2 ms ∧ ms.length = i)
      ⟨[], [], none, none, none, none, none, rfl, k1.trans k2, ⟨k2.keep _ _ hfl hfp, .nil⟩, Made.nil, rfl⟩ ?_ ?_
    · clear k1 k2 hfl
      rintro i σ H3 hi ⟨as, ms, v2, v3, v4, v5, v6, rfl, k3, M, X, hml⟩
      have hi3 : i < 3 := by omega
      rw [show (0 : Int) + ((i : Nat) : Int) = ((i : Nat) : Int) from Int.zero_add _]
      dsimp only [gName]
      refine seq_cut (t := tPar _ _ _) (fun σ' H' => ∃ (N : Nat) (e : Addr) (Hb : Hp), σ' = lg p fl (some (nv i)) (some (nv N)) (some (.ref e)) v5 v6 ∧ Kp p H Hb ∧ ModelsAt Hb fl as ms ∧ Hb e = none ∧ Same Hb H' ∧ H' e = some (.dT []) ∧ 45 ≤ N ∧ N ≤ 64) (fun NX hNX => ?_) ?_
      · refine ⟨_, rfl, p, 20, rfl, k3.pur, by decide, by decide, fun r H4 hr4 k4 => ?_⟩
        have en : V.int (64 - (r : Nat)) = nv (64 - r) := by
          show V.int _ = V.int _
          congr 1
          omega
        refine ⟨_, _, rfl, rfl, fun e he => ⟨_, _, rfl, hNX _ _ ⟨64 - r, e, H4, ?_, k3.trans k4, M.kp k3.pur k4, he, same_upd he, upd_same, by omega, by omega⟩⟩⟩
        rw [← en]
        rfl
      clear k3 M
      rintro σ H4 ⟨N, e, Hb, rfl, kb, M, he, s4, hde, hN1, hN2⟩
      refine seq_cut (t := tFor _ _ _) (fun σ' H' => ∃ (kvs : List (List Key × V)) (E : Ends) (v5 v6 : Option V), σ' = lg p fl (some (nv i)) (some (nv N)) (some (.ref e)) v5 v6 ∧ Same Hb H' ∧ H' e = some (.dT kvs) ∧ Rep kvs E ∧ Row i (N - 1) E) (fun NX hNX => ?_) ?_
      · refine ⟨_, rfl, _, _, rfl, rfl, ((N : Nat) : Int) - 1, rfl, by omega, by omega, ?_⟩
        refine for_range (lo := 0) (n := (((N : Nat) : Int) - 1).toNat) (fun h σ' H' => ∃ (kvs : List (List Key × V)) (E : Ends) (v5 v6 : Option V), σ' = lg p fl (some (nv i)) (some (nv N)) (some (.ref e)) v5 v6 ∧ Same Hb H' ∧ H' e = some (.dT kvs) ∧ Rep kvs E ∧ Row i h E ∧ kvs.length ≤ 2 * h)
          ⟨[], _, v5, v6, rfl, s4, hde, Rep.nil, .inl ⟨rfl, rfl⟩, Nat.le_refl _⟩ ?_ ?_
        · clear s4 hde hNX
          rintro h σ H5 hh ⟨kvs, E, v5, v6, rfl, s5, hde, R, RW, hkl⟩
          rw [show (0 : Int) + ((h : Nat) : Int) = ((h : Nat) : Int) from Int.zero_add _]
          dsimp only [gName]
          refine seq_cut (t := tAsg _ _) (fun σ' H' => σ' = lg p fl (some (nv i)) (some (nv N)) (some (.ref e)) (some (nv h)) (some (.str (lw i h))) ∧ Same Hb H' ∧ H' e = some (.dT kvs)) (fun NX hNX => ?_) ?_
          · refine ⟨_, rfl, _, _, rfl, rfl, by show (0 : Int) < 2; decide, "pq", _, _, rfl, rfl, by decide, pq_at h, _, rfl, "abc", _, _, rfl, rfl, by decide, abc_at i hi3, _, _, rfl, rfl, by show 1 + 1 ≤ sizeLine; decide, hNX _ _ ⟨?_, s5, hde⟩⟩
            rfl
          clear s5 hde
          rintro σ H6 ⟨rfl, s6, hde⟩
          have l1 := length_putK kvs (EKey h (lw i h)) (nv (h + 1))
          refine seq_cut (t := sDPut _ _ _) (fun σ' H' => σ' = lg p fl (some (nv i)) (some (nv N)) (some (.ref e)) (some (nv h)) (some (.str (lw i h))) ∧ Same Hb H' ∧ H' e = some (.dT (putK kvs (EKey h (lw i h)) (nv (h + 1))))) (fun NX hNX => ?_) ?_
          · refine ⟨_, rfl, _, _, rfl, rfl, _, rfl, _, rfl, _, rfl, hsz2, fun z hz => ⟨e, _, rfl, DPut.t (k := EKey h (lw i h)) (b := z) (at_in hde hz) upd_same (by omega), ?_⟩⟩
            exact hNX _ _ ⟨rfl, same_in (same_in s6 (s6.free hz)) he, upd_same⟩
          clear s6 hde
          rintro σ H7 ⟨rfl, s7, hde⟩
          have l2 := length_putK (putK kvs (EKey h (lw i h)) (nv (h + 1))) (EKey (h + 1) (lw i h)) (nv h)
          refine ⟨_, rfl, _, rfl, _, rfl, _, _, rfl, rfl, _, rfl, hsz2, fun z hz => ⟨e, _, rfl, DPut.t (k := EKey (h + 1) (lw i h)) (b := z) (at_in hde hz) upd_same (by omega), ?_⟩⟩
          exact ⟨_, _, _, _, rfl, same_in (same_in s7 (s7.free hz)) he, upd_same, (R.put h (lw i h) (h + 1)).put (h + 1) (lw i h) h, RW.next, by omega⟩
        · rintro σ H5 ⟨kvs, E, v5, v6, rfl, s5, hde, R, RW, hkl⟩
          exact hNX _ _ ⟨kvs, E, _, _, rfl, s5, hde, R, by rw [show N - 1 = (((N : Nat) : Int) - 1).toNat by omega]; exact RW⟩
      clear s4 hde
      rintro σ H5 ⟨kvs, E, v5, v6, rfl, s5, hde, R, RW⟩
      have GH : Dm.House N (· ∈ [lw i 0, lw i 1]) E := by
        rcases RW with ⟨h0, _⟩ | ⟨_, G, _⟩
        · omega
        · rw [show N - 1 + 1 = N by omega] at G
          exact G
      have hal : as.length = ms.length := M.d.length
      have M5 := M.same s5
      refine ⟨_, rfl, .inl ⟨rfl, _, SqL.of M5.l⟩, _, rfl, _, rfl, hsz2, fun t ht => ?_⟩
      have M6 := M5.same (same_upd (o := .tup [nv N, .ref e]) ht)
      refine ⟨fl, _, _, rfl, rfl, M6.l, by rw [List.length_map]; omega, ?_⟩
      have le := Le.lst (o := .lst (as.map V.ref ++ [.ref t])) M6.l
      have MA : ModelAt (upd H5 t (.tup [nv N, .ref e])) t ⟨N, [lw i 0, lw i 1], E⟩ := ⟨e, kvs, upd_same, at_in hde ht, R⟩
      have k6 : Kp p H (upd H5 t (.tup [nv N, .ref e])) := (kb.same s5).up hp ((kb.same s5).free ht)
      refine ⟨as ++ [t], ms ++ [⟨N, [lw i 0, lw i 1], E⟩], _, _, _, _, _, rfl, k6.up hp hfl0, ⟨by rw [upd_same, map_snoc], (Paired.mapP M6.d fun a m h => h.mono le).snoc (MA.mono le)⟩, X.snoc ⟨⟨GH, hN2⟩, hN2, by show 2 ≤ 2; decide, fun c hc => ?_⟩, by rw [List.length_append, List.length_singleton, hml]⟩
      have hc : c ∈ [lw i 0, lw i 1] := hc
      rcases List.mem_cons.mp hc with z | z
      · rw [z]
        exact ⟨lw_col hi3, 0, by rw [hml]⟩
      · rw [List.mem_singleton.mp z]
        exact ⟨lw_col hi3, 1, by rw [hml]⟩
    · rintro σ H3 ⟨as, ms, v2, v3, v4, v5, v6, rfl, k3, M, X, hml⟩
      exact ⟨_, rfl, q H3 fl as ms k3 hfl0 M (X.fit hB (by omega : ms.length ≤ 3) (by decide) (by decide) (by decide))⟩

/-! ### _law_scene -/
def spScene : Sp := fun vs H Q _ => ∃ p : Addr, vs = [.ref p] ∧ Purse H p ∧ rScene p H Q
theorem scScene : FnScope ["_law_purse_here", "_law_way"] ["_law_purse_here"] (defScope sScene) := ⟨rfl, rfl, rfl, by decide +kernel, rfl, by decide +kernel, by decide +kernel⟩
theorem rScene.after {p : Addr} {H H' : Hp} {Q : VK} (q : rScene p H Q) (k : Kp p H H') : rScene p H' Q := fun H2 l as ms k2 n M F => q H2 l as ms (k.trans k2) (k.free n) M F
theorem ok_scene {f : Addr} {fd : FuncData} (F : L2.Fun K "_law_scene" "_law_scene" sScene f fd) (cD : Cal P w K mg base 1 "_law_draw" spDraw) (cW : Cal P w K mg base 3 "_law_wide" spWide) (cL : Cal P w K mg base 2 "_law_lines" spLines) (cP : Cal P w K mg base 3 "_law_parts" spParts) : FnOk P w K mg base CX0 4 f fd ["_law_purse_here"] spScene := by
  refine F.ok scScene (fun vs H Q E h => ?_) (fun cdv A outer s H vs Q E hr h => ?_)
  · obtain ⟨p, rfl, _⟩ := h
    rfl
  · obtain ⟨p, rfl, hp, q⟩ := h
    refine ⟨_, pss_cons (ps_set (i := 1) scScene.nd rfl (Or.inl rfl) (pe_c cD hr (by decide) (by rfl) (pa_cons (pv 0) (pa_cons pe_int pa_nil))))
      (pss_cons (ps_if (pt_cmpR op_eq (pv 1) pe_int (nomark _)) (pss_one (ps_ret (pe_c cW hr (by decide) (by rfl) (pa_cons (pv 0) (pa_cons pe_int (pa_cons pe_int pa_nil)))))) pss_nil)
      (pss_cons (ps_if (pt_cmpR op_eq (pv 1) pe_int (nomark _)) (pss_one (ps_ret (pe_c cL hr (by decide) (by rfl) (pa_cons (pv 0) pa_nil)))) pss_nil)
      (pss_one (ps_ret (pe_c cP hr (by decide) (by rfl) (pa_cons (pv 0) (pa_cons pe_int (pa_cons pe_int pa_nil)))))))), ?_⟩
    refine ⟨_, rfl, p, 8, rfl, hp, by decide, by decide, fun r H1 hr1 k1 => ?_⟩
    refine ⟨_, rfl, rfl, _, rfl, ?_⟩
    refine ite2 (fun _ => ⟨_, rfl, p, rfl, k1.pur, q.after k1⟩) (fun _ => ?_)
    refine ⟨_, rfl, rfl, _, rfl, ?_⟩
    exact ite2 (fun _ => ⟨_, rfl, p, rfl, k1.pur, q.after k1⟩) (fun _ => ⟨_, rfl, p, rfl, k1.pur, q.after k1⟩)
end
end DL

/-! the law's right and law -/
namespace DL
open PySem L2 DI DO DS

/-! ### the distance of addresses -/
theorem apart_symm {ms : List Model} (G : ∀ m ∈ ms, Good m.N m.ws m.E) : ∀ {xs ys : List Nat}, Spot ms xs → Spot ms ys → apart ms xs ys = apart ms ys xs := by
  intro xs ys h1
  induction h1 generalizing ys with
  | nil => intro h2; cases h2; rfl
  | @cons m x ms xs hx t ih =>
    intro h2
    cases h2 with
    | @cons _ y _ ys hy t2 =>
      have g := (G m List.mem_cons_self).g
      obtain ⟨n, wk⟩ := g.walk hx hy
      show Dm.dist m.E x y + apart ms xs ys = Dm.dist m.E y x + apart ms ys xs
      rw [Dm.dist_symm g.sym wk, ih (fun m' hm' => G m' (List.mem_cons_of_mem _ hm')) t2]
theorem apart_tri {ms : List Model} (G : ∀ m ∈ ms, Good m.N m.ws m.E) : ∀ {xs ys zs : List Nat}, Spot ms xs → Spot ms ys → Spot ms zs → apart ms xs zs ≤ apart ms xs ys + apart ms ys zs := by
  intro xs ys zs h1
  induction h1 generalizing ys zs with
  | nil => intro h2 h3; cases h2; cases h3; exact Nat.le_refl _
  | @cons m x ms xs hx t ih =>
    intro h2 h3
    cases h2 with
    | @cons _ y _ ys hy t2 =>
      cases h3 with
      | @cons _ z _ zs hz t3 =>
        have g := (G m List.mem_cons_self).g
        obtain ⟨n, w1⟩ := g.walk hx hy
        obtain ⟨n', w2⟩ := g.walk hy hz
        have h := ih (fun m' hm' => G m' (List.mem_cons_of_mem _ hm')) t2 t3
        have h' := Dm.dist_tri w1 w2
        show Dm.dist m.E x z + apart ms xs zs ≤ (Dm.dist m.E x y + apart ms xs ys) + (Dm.dist m.E y z + apart ms ys zs)
        omega
theorem apart_zero {ms : List Model} (G : ∀ m ∈ ms, Good m.N m.ws m.E) : ∀ {xs ys : List Nat}, Spot ms xs → Spot ms ys → (apart ms xs ys = 0 ↔ xs = ys) := by
  intro xs ys h1
  induction h1 generalizing ys with
  | nil => intro h2; cases h2; exact ⟨fun _ => rfl, fun _ => rfl⟩
  | @cons m x ms xs hx t ih =>
    intro h2
    cases h2 with
    | @cons _ y _ ys hy t2 =>
      have g := (G m List.mem_cons_self).g
      obtain ⟨n, w1⟩ := g.walk hx hy
      have h := ih (fun m' hm' => G m' (List.mem_cons_of_mem _ hm')) t2
      show Dm.dist m.E x y + apart ms xs ys = 0 ↔ _
      constructor
      · intro e
        have e1 : Dm.dist m.E x y = 0 := by omega
        have e2 : apart ms xs ys = 0 := by omega
        rw [Dm.dist_zero w1 e1, h.1 e2]
      · intro e
        injection e with e1 e2
        subst e1
        rw [h.2 e2, Dm.dist_self]
theorem ints_dp {K : PySem.W.Frag} {H : Hp} : ∀ xs : List Nat, DpAll K H (xs.map nv) (xs.map fun x : Nat => PyData.int (x : Int))
  | [] => .nil
  | x :: r => .cons (.int _) (ints_dp r)
theorem ints_ok : ∀ xs : List Nat, PyData.canLayAll0 (xs.map fun x : Nat => PyData.int (x : Int)) = true ∧ PyData.depthAll (xs.map fun x : Nat => PyData.int (x : Int)) = 0
  | [] => ⟨rfl, rfl⟩
  | x :: r => by
    obtain ⟨h1, h2⟩ := ints_ok r
    exact ⟨by simp only [List.map_cons, PyData.canLayAll0, PyData.canLay0, h1, Bool.and_self], by simp only [List.map_cons, PyData.depthAll, PyData.depth, h2, Nat.max_self]⟩
theorem ints_shaped (xs : List Nat) : SeqAt.shaped (.tuple (xs.map fun x : Nat => PyData.int (x : Int))) = true := by
  obtain ⟨h1, h2⟩ := ints_ok xs
  unfold SeqAt.shaped
  rw [Bool.and_eq_true]
  exact ⟨by simp only [PyData.canLay0]; exact h1, decide_eq_true (by simp only [PyData.depth, h2]; decide)⟩
theorem ints_eqv : ∀ xs ys : List Nat, PyData.eqvAll (xs.map fun x : Nat => PyData.int (x : Int)) (ys.map fun x : Nat => PyData.int (x : Int)) = decide (xs = ys)
  | [], [] => rfl
  | [], y :: ys => rfl
  | x :: xs, [] => rfl
  | x :: xs, y :: ys => by
    have ih := ints_eqv xs ys
    simp only [List.map_cons, PyData.eqvAll, PyData.eqv, ih]
    by_cases h : x = y
    · subst h
      by_cases h2 : xs = ys
      · subst h2
        simp
      · simp [h2]
    · have : ¬ ((x : Int) = (y : Int)) := by omega
      simp [h, this]
theorem eq_spots {K : PySem.W.Frag} {H : Hp} {a b : Addr} {xs ys : List Nat} {Q : VK} (ha : H a = some (.tup (xs.map nv))) (hb : H b = some (.tup (ys.map nv))) (q : Q (.bl (decide (xs = ys))) H) : rEqD K (.ref a) (.ref b) H Q := by
  refine ⟨.tuple _, .tuple _, .tup (SqT.of ha) (ints_dp xs), .tup (SqT.of hb) (ints_dp ys), ints_shaped xs, ints_shaped ys, ?_⟩
  have e : PyData.eqv (.tuple (xs.map fun x : Nat => PyData.int (x : Int))) (.tuple (ys.map fun x : Nat => PyData.int (x : Int))) = decide (xs = ys) := ints_eqv xs ys
  rw [e]
  exact q
theorem spot_zero (ms : List Model) (G : ∀ m ∈ ms, Good m.N m.ws m.E) : Spot ms (List.replicate ms.length 0) := by
  induction ms with
  | nil => exact .nil
  | cons m ms ih =>
    have := (G m List.mem_cons_self).g.two
    exact .cons (by omega) (ih fun m' hm' => G m' (List.mem_cons_of_mem _ hm'))

/-- distance(goal = .., start = ..) -/
def gKw {α : Type} : List α → List α → List α := fun us ws => match us, ws with
  | [a], [b, c] => [a, c, b]
  | _, _ => []
structure MetK (P : Program) (w : World) (K : PySem.W.Frag) (mg : Str → Option Value) (base : Heap) (k : Nat) (C : Addr) (m : Str) (ks : List Str) (sp : Sp) : Prop where
  ex : ∃ (f : Addr) (fd : FuncData) (ps : List Str), Cls K C ∧ Meth K C m f ∧ FnOk P w K mg base CX0 k f fd ps sp ∧ KBinds K fd ps ks gKw gKw
theorem pe_mtK {X : Cx} {k j : Nat} {C : Addr} {m : Str} {ks : List Str} {sp : Sp} {pos apos : Pos} {o : Expr} {kws : List Keyword} {ta : TE} {tk : TA} {pl : Sem Bool} (c : MetK X.prog X.w X.K X.mg X.base k C m ks sp) (hr : Room j X.A) (hk : k ≤ j) (he : PE X o ta) (hkw : PK X kws tk)
    (hall : (backToKw pos (keywordEach kws X.env)).all (·.1.isSome) = true := by rfl) (hks : (backToKw pos (keywordEach kws X.env)).filterMap (·.1) = ks := by rfl)
    (hpl : ((backTo pos (starEach [] X.env)).any (·.1) || (backToKw pos (keywordEach kws X.env)).any (·.1.isNone)) = false := by rfl)
    (ht : eval (.Call (.Attribute o m apos) [] kws pos) X.env = (do
      let ov ← eval o X.env
      standAt apos.atName
      let (f, first) ← holding [ov] (getMethod ov m pl)
      callWith pos f first (backTo pos (starEach [] X.env)) (backToKw pos (keywordEach kws X.env))) := by rfl) :
    PE X (.Call (.Attribute o m apos) [] kws pos) (tMethK C m sp gKw E0 ta tk) := by
  obtain ⟨f, fd, ps, hc, hm, F, b⟩ := c.ex
  exact pe_methK (pl := pl) he hc hm F (hr.mono hk) b pass0 hkw hall hks hpl ht

section
variable {P : Program} {w : World} {K : PySem.W.Frag} {mg : Str → Option Value} {base : Heap} {CH CC : Addr}
def spRight : Sp := fun vs H Q _ => ∃ p : Addr, vs = [.ref p] ∧ Purse H p ∧ ∀ H', Kp p H H' → Q (.bl true) H'
theorem scRight : FnScope ["_law_purse_here", "_law_models", "_law_castle_here", "_law_words_here", "_law_turn", "_law_source", "_law_target", "_law_third", "_law_due", "_law_told", "_law_word", "_law_here", "_law_k", "_law_item"] ["_law_purse_here"] (defScope sRight) := ⟨rfl, rfl, rfl, by decide +kernel, rfl, by decide +kernel, by decide +kernel⟩
abbrev rg (p l ca wl : Addr) (v4 v5 v6 v7 v8 v9 v10 v11 v12 v13 : Option V) : L2.St := [some (.ref p), some (.ref l), some (.ref ca), some (.ref wl), v4, v5, v6, v7, v8, v9, v10, v11, v12, v13]
abbrev nR : List Str := ["_law_purse_here", "_law_models", "_law_castle_here", "_law_words_here", "_law_turn", "_law_source", "_law_target", "_law_third", "_law_due", "_law_told", "_law_word", "_law_here", "_law_k", "_law_item"]
set_option maxHeartbeats 4000000 in
theorem ok_right {f : Addr} {fd : FuncData} (F : L2.Fun K "_law_right" "_law_right" sRight f fd) (T : Txt K mg CH CC) (cS : Cal P w K mg base 4 "_law_scene" spScene) (cC : Cal P w K mg base 7 "_law_castle" (spCastle CH CC)) (cK : Cal P w K mg base 1 "_law_known" spKnown)
    (cA : Cal P w K mg base 2 "_law_address" spAddr) (cQ : Cal P w K mg base 3 "_law_apart" spApart) (cI : Cal P w K mg base 1 "_law_is" spIs) (cL : Cal P w K mg base 2 "_law_led" spLed)
    (mD : Met P w K mg base 5 CC "distance" (spCDist CH CC)) (mK : MetK P w K mg base 5 CC "distance" ["goal", "start"] (spCDist CH CC)) (mO : Met P w K mg base 1 CC "origin" (spOrigin CH CC)) : FnOk P w K mg base CX0 8 f fd ["_law_purse_here"] spRight := by
  refine F.ok scRight (fun vs H Q E h => ?_) (fun cdv A outer s H vs Q E hr h => ?_)
  · obtain ⟨p, rfl, _⟩ := h
    rfl
  · obtain ⟨p, rfl, hp, q⟩ := h
    refine ⟨_, pss_cons (ps_set (i := 1) scRight.nd rfl (Or.inr rfl) (pe_c cS hr (by decide) (by rfl) (pa_cons (pv 0) pa_nil)))
      (pss_cons (ps_par (i := 2) (j := 3) (by rfl) scRight.nd rfl rfl (by decide) rfl rfl (pa_cons (pe_c cC hr (by decide) (by rfl) (pa_cons (pv 1) pa_nil)) (pa_cons (pe_c cK hr (by decide) (by rfl) (pa_cons (pv 1) pa_nil)) pa_nil)) (by rfl))
      (pss_cons (ps_for PassesOwn.never rfl (pi_range1 rfl T.zrange (pa_cons pe_int pa_nil)) (pg_name (i := 4) scRight.nd rfl (Or.inl rfl))
        (pss_cons (ps_asg (pe_lc (own := [("_law_k", 12)]) (g := gName 12) (tt := tYes) rfl scRight.nd (pi_range1 rfl T.zrange (pa_cons pe_int pa_nil)) (blkOk_by (N := nR) (sc := defScope sRight) (by decide +kernel)) (fun _ _ _ _ _ => pg_name (i := 12) scRight.nd rfl (Or.inl rfl)) (fun _ _ _ _ _ => pts_nil)
            (fun _ _ _ _ _ => pe_c cA hr (by decide) (by rfl) (pa_cons (pv 0) (pa_cons (pv 1) pa_nil)))) (pg_unl rfl (pgs_cons (pg_name (i := 5) scRight.nd rfl (Or.inl rfl)) (pgs_cons (pg_name (i := 6) scRight.nd rfl (Or.inl rfl)) (pgs_cons (pg_name (i := 7) scRight.nd rfl (Or.inl rfl)) pgs_nil)))))
        (pss_cons (ps_set (i := 6) scRight.nd rfl (Or.inl rfl) (pe_ix ix_list (pe_lst (pa_cons (pv 6) (pa_cons (pv 5) pa_nil))) (pe_callTy call_int1 (by rfl) T.zint PyProof.Rows.boot_int (pa_cons (pe_cmpR op_eq (pv 4) pe_int (nomark _)) pa_nil)) (fun _ _ => rfl)))
        (pss_cons (ps_set (i := 8) scRight.nd rfl (Or.inr rfl) (pe_c cQ hr (by decide) (by rfl) (pa_cons (pv 1) (pa_cons (pv 5) (pa_cons (pv 6) pa_nil)))))
        (pss_cons (ps_set (i := 9) scRight.nd rfl (Or.inl rfl) (pe_lst (pa_cons (pe_mt mD hr (by decide) (pv 2) (pa_cons (pv 5) (pa_cons (pv 6) pa_nil))) (pa_cons (pe_mt mD hr (by decide) (pv 2) (pa_cons (pv 6) (pa_cons (pv 5) pa_nil))) pa_nil))))
        (pss_cons (ps_expr (pe_bm PySem.F.plainAttrs_list PySem.F.slot_list_append PySem.F.type_list_append mt_append (pv 9) (pa_cons (pe_mtK mK hr (by decide) (pv 2) (pk_cons (pv 6) (pk_cons (pv 5) pk_nil))) pa_nil)))
        (pss_cons (ps_if (PW.pt (pw_or (pt_not (pt_val (pe_callB (cr_all rfl) (by rfl) T.zall PyProof.Rows.boot_all (pa_cons
            (pe_lc (own := [("_law_item", 13)]) (g := gName 13) (tt := tYes) rfl scRight.nd (pi_list (pv 9)) (blkOk_by (N := nR) (sc := defScope sRight) (by decide +kernel)) (fun _ _ _ _ _ => pg_name (i := 13) scRight.nd rfl (Or.inl rfl)) (fun _ _ _ _ _ => pts_nil)
              (fun _ _ _ _ _ => pe_c cI hr (by decide) (by rfl) (pa_cons (pv 13) (pa_cons (pv 8) pa_nil)))) pa_nil))))
            (pw_or1 (pt_cmpR op_ne (pe_cmpR op_eq (pv 8) pe_int (nomark _)) (pe_cmpR (op_eqD hr.units) (pv 5) (pv 6) (nomark _)) (nomark _))))) (pss_one (ps_ret pe_bl)) pss_nil)
        (pss_cons (ps_if (pt_cmpR op_lt (pe_op op_add (pe_mt mD hr (by decide) (pv 2) (pa_cons (pv 5) (pa_cons (pv 7) pa_nil))) (pe_mt mD hr (by decide) (pv 2) (pa_cons (pv 7) (pa_cons (pv 6) pa_nil)))) (pv 8) (nomark _)) (pss_one (ps_ret pe_bl)) pss_nil)
        (pss_one (ps_for PassesOwn.never rfl (pi_list (pe_slice sl_list (pv 3) po_none (po_some pe_int))) (pg_name (i := 10) scRight.nd rfl (Or.inl rfl))
          (pss_cons (ps_set (i := 11) scRight.nd rfl (Or.inl rfl) (pe_c cL hr (by decide) (by rfl) (pa_cons (pv 1) (pa_cons (pv 5) (pa_cons (pe_tup (pa_cons (pv 10) pa_nil)) pa_nil)))))
          (pss_one (ps_if (pt_not (pt_val (pe_c cI hr (by decide) (by rfl) (pa_cons (pe_mt mD hr (by decide) (pv 2) (pa_cons (pv 11) (pa_cons (pv 6) pa_nil))) (pa_cons (pe_c cQ hr (by decide) (by rfl) (pa_cons (pv 1) (pa_cons (pv 11) (pa_cons (pv 6) pa_nil)))) pa_nil))))) (pss_one (ps_ret pe_bl)) pss_nil)))))))))))))
      (pss_one (ps_ret (pe_cmpR op_eq (pe_mt mD hr (by decide) (pv 2) (pa_cons (pe_mt0 mO hr (by decide) (pv 2)) (pa_cons (pe_mt0 mO hr (by decide) (pv 2)) pa_nil))) pe_int (nomark _)))))), ?_⟩
    have hsz : (4000 : Nat) < sizeLine := by decide
    refine ⟨_, rfl, p, rfl, hp, fun H1 l as ms k1 nl M F' => ?_⟩
    refine ⟨_, rfl, l, as, ms, rfl, M, F', fun H2 ca s2 nca CA => ?_⟩
    refine ⟨_, rfl, l, as, ms, rfl, M.same s2, F'.good, F'.sz, fun H3 wl cs s3 nwl hwl hcs hcl => ⟨_, _, rfl, ?_⟩⟩
    have k3 : Kp p H H3 := k1.same (s2.trans s3)
    have M3 := M.same (s2.trans s3)
    have CA3 := CA.mono (Le.of_same s3)
    clear hcs nca nwl k1 M CA s2 s3
    dsimp only
    have hal : as.length = ms.length := M3.d.length
    have hl72 := F'.len
    have hN : ∀ m ∈ ms, 2 ≤ m.N ∧ m.N ≤ 64 := fun m hm => ⟨(F'.good m hm).g.two, (F'.good m hm).le⟩
    have hwp : ∀ {H' : Hp}, Purse H' p → H' wl = some (.lst (cs.map V.str)) → wl ≠ p := fun hpu h => hpu.ne h (strs_ne _)
    refine seq_cut (t := tFor _ _ _) (fun σ' H' => ∃ v4 v5 v6 v7 v8 v9 v10 v11 v12 v13 : Option V, σ' = rg p l ca wl v4 v5 v6 v7 v8 v9 v10 v11 v12 v13 ∧ Kp p H H' ∧ CastleAt CH CC H' ca ms) (fun NX hNX => ?_) ?_
    · refine ⟨4, rfl, by decide, by decide, ?_⟩
      refine for_range (lo := 0) (n := 4) (fun i σ' H' => ∃ v4 v5 v6 v7 v8 v9 v10 v11 v12 v13 : Option V, σ' = rg p l ca wl v4 v5 v6 v7 v8 v9 v10 v11 v12 v13 ∧ Kp p H H' ∧ ModelsAt H' l as ms ∧ CastleAt CH CC H' ca ms ∧ H' wl = some (.lst (cs.map V.str)))
        ⟨_, _, _, _, _, _, _, _, _, _, rfl, k3, M3, CA3, hwl⟩ ?_ ?_
      · clear k3 M3 CA3 hwl hNX
        rintro i σ H2 hi ⟨v4, v5, v6, v7, v8, v9, v10, v11, v12, v13, rfl, k2, M, CA, hwl⟩
        dsimp only [gName]
        -- source, target, third
        refine seq_cut (t := tAsg _ _) (fun σ' H' => ∃ (sa ta ha : Addr) (xs ys zs : List Nat), σ' = rg p l ca wl (some (.int (0 + (i : Nat)))) (some (.ref sa)) (some (.ref ta)) (some (.ref ha)) v8 v9 v10 v11 v12 v13 ∧ Kp p H H' ∧ ModelsAt H' l as ms ∧ CastleAt CH CC H' ca ms ∧ H' wl = some (.lst (cs.map V.str)) ∧
          H' sa = some (.tup (xs.map nv)) ∧ Spot ms xs ∧ H' ta = some (.tup (ys.map nv)) ∧ Spot ms ys ∧ H' ha = some (.tup (zs.map nv)) ∧ Spot ms zs) (fun NX hNX => ?_) ?_
        · refine ⟨3, rfl, by decide, by decide, fun D hD => ?_⟩
          have hDp := k2.pur.dne hD
          refine lc_range (lo := 0) (n := 3) (fun j H' => Kp p H2 H' ∧ ∃ (ts : List Addr) (xss : List (List Nat)), H' D = some (.lst (ts.map V.ref)) ∧ Paired (fun (t : Addr) (xs : List Nat) => H' t = some (.tup (xs.map nv)) ∧ Spot ms xs) ts xss ∧ ts.length = j) ⟨(Kp.refl k2.pur).up k2.pur hD, [], [], upd_same, .nil, rfl⟩ ?_ ?_
          · rintro j H3 hj ⟨k3, ts, xss, hd, hpx, htl⟩
            refine ⟨rfl, tyes ?_⟩
            refine ⟨_, rfl, _, rfl, p, l, as, ms, rfl, k3.pur, M.kp k2.pur k3, hN, hl72, fun H4 t xs k4 nt ht S => ?_⟩
            have hd4 := k4.keep _ _ hd hDp
            have le : Le H4 (upd H4 D (.lst (ts.map V.ref ++ [.ref t]))) := Le.lst hd4
            refine ⟨_, hd4, by rw [List.length_map]; omega, (k3.trans k4).up k2.pur hD, ts ++ [t], xss ++ [xs], by rw [upd_same, map_snoc], (Paired.mapP hpx fun t' xs' h => ⟨le _ _ (k4.at k3.pur h.1 (fun _ _ z => by cases z)) trivial, h.2⟩).snoc ⟨le _ _ ht trivial, S⟩, by rw [List.length_append, List.length_singleton, htl]⟩
          · rintro H3 ⟨k3, ts, xss, hd, hpx, htl⟩
            match ts, xss, hpx, htl, hd with
            | [sa, ta, ha], _, .cons (b := xs) ⟨h1, S1⟩ (.cons (b := ys) ⟨h2, S2⟩ (.cons (b := zs) ⟨h3, S3⟩ .nil)), _, hd =>
              refine ⟨D, _, rfl, SqL.of hd, rfl, _, _, rfl, _, _, rfl, _, _, rfl, rfl, ?_⟩
              exact hNX _ _ ⟨sa, ta, ha, xs, ys, zs, rfl, k2.trans k3, M.kp k2.pur k3, CA.mono (Le.of_kp k3 k2.pur), k3.keep _ _ hwl (hwp k2.pur hwl), h1, S1, h2, S2, h3, S3⟩
        clear k2 M CA hwl
        rintro σ H3 ⟨sa, t0, ha, xs, y0, zs, rfl, k3, M, CA, hwl, hsa, Sx, ht0, Sy0, hha, Sz⟩
        -- target
        refine seq_cut (t := tAsg _ _) (fun σ' H' => ∃ (ta : Addr) (ys : List Nat), σ' = rg p l ca wl (some (.int (0 + (i : Nat)))) (some (.ref sa)) (some (.ref ta)) (some (.ref ha)) v8 v9 v10 v11 v12 v13 ∧ Same H3 H' ∧ H3 ta = some (.tup (ys.map nv)) ∧ Spot ms ys) (fun NX hNX => ?_) ?_
        · refine ⟨_, rfl, _, rfl, by show 2 ≤ sizeLine; decide, fun z hz => ?_⟩
          refine ⟨_, rfl, rfl, .inr ⟨_, rfl, ?_⟩⟩
          generalize decide (V.int (0 + ((i : Nat) : Int)) = V.int 3) = bq
          cases bq with
          | true => exact ⟨z, _, 1, .ref sa, rfl, rfl, SqL.of upd_same, atI_nat (j := 1) rfl, hNX _ _ ⟨sa, xs, rfl, same_upd hz, hsa, Sx⟩⟩
          | false => exact ⟨z, _, 0, .ref t0, rfl, rfl, SqL.of upd_same, atI_nat (j := 0) rfl, hNX _ _ ⟨t0, y0, rfl, same_upd hz, ht0, Sy0⟩⟩
        rintro σ H4 ⟨ta, ys, rfl, s4, hta, Sy⟩
        clear ht0 Sy0
        obtain ⟨dx, pt, pd, hs, hc1, PA⟩ := id CA.ex
        have Mk : ∀ {H' : Hp}, Same H3 H' → ModelsAt H' l as ms := fun s => M.same s
        have Ck : ∀ {H' : Hp}, Same H3 H' → CastleAt CH CC H' ca ms := fun s => CA.mono (Le.of_same s)
        have noD : (cf pt pd).lookup ("distance" : Str) = none := cf_no _ _ (by decide +kernel) (by decide +kernel)
        have esym : apart ms ys xs = apart ms xs ys := (apart_symm F'.good Sx Sy).symm
        -- due
        refine seq_cut (t := tAsg _ _) (fun σ' H' => σ' = rg p l ca wl (some (.int (0 + (i : Nat)))) (some (.ref sa)) (some (.ref ta)) (some (.ref ha)) (some (nv (apart ms xs ys))) v9 v10 v11 v12 v13 ∧ Same H3 H') (fun NX hNX => ?_) ?_
        · exact ⟨_, rfl, _, rfl, _, rfl, l, sa, ta, as, ms, xs, ys, rfl, Mk s4, F', s4 _ _ hsa, Sx, s4 _ _ hta, Sy, fun H5 s5 => hNX _ _ ⟨rfl, s4.trans s5⟩⟩
        clear s4
        rintro σ H5 ⟨rfl, s5⟩
        -- told
        refine seq_cut (t := tAsg _ _) (fun σ' H' => ∃ tl : Addr, σ' = rg p l ca wl (some (.int (0 + (i : Nat)))) (some (.ref sa)) (some (.ref ta)) (some (.ref ha)) (some (nv (apart ms xs ys))) (some (.ref tl)) v10 v11 v12 v13 ∧ Same H3 H' ∧ H3 tl = none ∧ H' tl = some (.lst [nv (apart ms xs ys), nv (apart ms xs ys)])) (fun NX hNX => ?_) ?_
        · refine ⟨_, rfl, ca, dx, _, rfl, s5 _ _ hc1, noD, _, rfl, _, rfl, ca, sa, ta, ms, xs, ys, rfl, Ck s5, F'.good, hl72, s5 _ _ hsa, Sx, s5 _ _ hta, Sy, fun H6 s6 => ?_⟩
          have s56 := s5.trans s6
          refine ⟨_, rfl, ca, dx, _, rfl, s56 _ _ hc1, noD, _, rfl, _, rfl, ca, ta, sa, ms, ys, xs, rfl, Ck s56, F'.good, hl72, s56 _ _ hta, Sy, s56 _ _ hsa, Sx, fun H7 s7 => ?_⟩
          have s57 := s56.trans s7
          rw [esym]
          refine ⟨by show 2 ≤ sizeLine; decide, fun tl htl => hNX _ _ ⟨tl, rfl, same_in s57 (s57.free htl), s57.free htl, upd_same⟩⟩
        clear s5
        rintro σ H6 ⟨tl, rfl, s6, htl0, htl⟩
        refine seq_cut (t := tDrop _) (fun σ' H' => σ' = rg p l ca wl (some (.int (0 + (i : Nat)))) (some (.ref sa)) (some (.ref ta)) (some (.ref ha)) (some (nv (apart ms xs ys))) (some (.ref tl)) v10 v11 v12 v13 ∧ Same H3 H' ∧ H' tl = some (.lst (List.replicate 3 (nv (apart ms xs ys))))) (fun NX hNX => ?_) ?_
        · refine ⟨_, rfl, .inl ⟨rfl, _, SqL.of htl⟩, ?_⟩
          refine ⟨_, rfl, ca, dx, _, rfl, s6 _ _ hc1, noD, _, rfl, _, rfl, ca, sa, ta, ms, xs, ys, rfl, Ck s6, F'.good, hl72, s6 _ _ hsa, Sx, s6 _ _ hta, Sy, fun H7 s7 => ?_⟩
          refine ⟨tl, _, _, rfl, rfl, s7 _ _ htl, by show 2 < sizeLine; decide, hNX _ _ ⟨rfl, same_in (s6.trans s7) htl0, upd_same⟩⟩
        clear s6 htl
        rintro σ H7 ⟨rfl, s7, htl⟩
        -- the first test
        refine seq_cut (t := tIfS _ _ _) (fun σ' H' => σ' = rg p l ca wl (some (.int (0 + (i : Nat)))) (some (.ref sa)) (some (.ref ta)) (some (.ref ha)) (some (nv (apart ms xs ys))) (some (.ref tl)) v10 v11 v12 v13 ∧ Same H3 H') (fun NX hNX => ?_) ?_
        · refine ⟨_, rfl, tl, rfl, ⟨_, SqL.of htl⟩, fun D hD => ?_⟩
          refine lc_list (K := K) (a := tl) (xs := List.replicate 3 (nv (apart ms xs ys))) (fun j H' => Same H7 H' ∧ H' D = some (.lst ((List.replicate j true).map V.bl))) ⟨same_upd hD, upd_same⟩ (fun j H' _ ⟨s', _⟩ => SqL.of (s' _ _ htl)) ?_ ?_
          · rintro j x H8 hj ⟨s8, hd⟩
            have hx := List.eq_of_mem_replicate (List.mem_of_getElem? hj)
            have hj3 := (List.getElem?_eq_some_iff.mp hj).1
            rw [List.length_replicate] at hj3
            subst hx
            refine ⟨rfl, tyes ?_⟩
            refine ⟨_, rfl, _, rfl, _, _, rfl, ?_⟩
            rw [decide_eq_true rfl]
            refine ⟨_, hd, by rw [List.length_map, List.length_replicate]; omega, same_in s8 hD, ?_⟩
            rw [upd_same, List.replicate_succ', List.map_append]
            rfl
          · rintro H8 ⟨s8, hd⟩
            have s38 := s7.trans s8
            refine ⟨D, _, rfl, SqL.of hd, _, rfl, ?_⟩
            have e1 : (List.replicate (List.replicate 3 (nv (apart ms xs ys))).length true).all id = true := by rw [List.length_replicate]; rfl
            rw [e1]
            refine iteF ?_
            refine ⟨_, rfl, rfl, _, rfl, _, rfl, eq_spots (s38 _ _ hsa) (s38 _ _ hta) ⟨rfl, _, rfl, ?_⟩⟩
            have e2 : (decide (nv (apart ms xs ys) = V.int 0)) = decide (xs = ys) := decide_eq_decide.mpr ⟨fun z => by
              injection z with z
              exact (apart_zero F'.good Sx Sy).1 (by omega), fun z => by
              rw [(apart_zero F'.good Sx Sy).2 z]
              rfl⟩
            rw [e2, decide_eq_true rfl]
            exact iteF (hNX _ _ ⟨rfl, s38⟩)
        clear s7 htl
        rintro σ H8 ⟨rfl, s8⟩
        -- the second test
        refine seq_cut (t := tIfS _ _ _) (fun σ' H' => σ' = rg p l ca wl (some (.int (0 + (i : Nat)))) (some (.ref sa)) (some (.ref ta)) (some (.ref ha)) (some (nv (apart ms xs ys))) (some (.ref tl)) v10 v11 v12 v13 ∧ Same H3 H') (fun NX hNX => ?_) ?_
        · refine ⟨_, rfl, ca, dx, _, rfl, s8 _ _ hc1, noD, _, rfl, _, rfl, ca, sa, ha, ms, xs, zs, rfl, Ck s8, F'.good, hl72, s8 _ _ hsa, Sx, s8 _ _ hha, Sz, fun H9 s9 => ?_⟩
          have s39 := s8.trans s9
          refine ⟨_, rfl, ca, dx, _, rfl, s39 _ _ hc1, noD, _, rfl, _, rfl, ca, ha, ta, ms, zs, ys, rfl, Ck s39, F'.good, hl72, s39 _ _ hha, Sz, s39 _ _ hta, Sy, fun H10 s10 => ?_⟩
          have tri := apart_tri F'.good Sx Sz Sy
          refine ⟨_, _, rfl, rfl, _, rfl, _, _, rfl, rfl, _, rfl, ?_⟩
          rw [decide_eq_false (by omega)]
          exact iteF (hNX _ _ ⟨rfl, s39.trans s10⟩)
        clear s8
        rintro σ H9 ⟨rfl, s9⟩
        -- the words
        refine ⟨_, rfl, _, rfl, wl, _, rfl, SqL.of (s9 _ _ hwl), fun z hz => ?_⟩
        have ez := cutV_map V.str cs none (some 12)
        have s10 : Same H3 (upd H9 z (.lst (cutV (cs.map V.str) none (some 12)))) := same_in s9 (s9.free hz)
        have hz10 : (upd H9 z (.lst (cutV (cs.map V.str) none (some 12)))) z = some (.lst ((cutL cs none (some 12)).map V.str)) := by rw [upd_same, ez]
        refine ⟨z, rfl, ⟨_, SqL.of hz10⟩, ?_⟩
        revert s10 hz10
        generalize upd H9 z (.lst (cutV (cs.map V.str) none (some 12))) = H10
        intro s10 hz10
        refine for_list (K := K) (a := z) (xs := (cutL cs none (some 12)).map V.str) (fun j σ' H' => ∃ v10 v11 : Option V, σ' = rg p l ca wl (some (.int (0 + (i : Nat)))) (some (.ref sa)) (some (.ref ta)) (some (.ref ha)) (some (nv (apart ms xs ys))) (some (.ref tl)) v10 v11 v12 v13 ∧ Same H3 H' ∧ Same H10 H')
          ⟨_, _, rfl, s10, Same.refl _⟩ (fun j σ' H' _ ⟨_, _, _, _, s'⟩ => SqL.of (s' _ _ hz10)) ?_ ?_
        · rintro j x σ H11 hj ⟨v10, v11, rfl, s11, s11b⟩
          obtain ⟨wd, _, rfl⟩ := get_map hj
          refine ⟨_, rfl, _, rfl, _, rfl, by show 1 ≤ sizeLine; decide, fun tw htw => ?_⟩
          have sT : Same H11 (upd H11 tw (.tup [.str wd])) := same_upd htw
          have s12 := s11.trans sT
          refine ⟨l, sa, tw, as, ms, xs, wd, rfl, Mk s12, F', s12 _ _ hsa, Sx, upd_same, fun H13 hea ws' s13 hhe Sw => ?_⟩
          have s313 := s12.trans s13
          refine ⟨_, rfl, ca, dx, _, rfl, s313 _ _ hc1, noD, _, rfl, _, rfl, ca, hea, ta, ms, ws', ys, rfl, Ck s313, F'.good, hl72, hhe, Sw, s313 _ _ hta, Sy, fun H14 s14 => ?_⟩
          have s314 := s313.trans s14
          refine ⟨_, rfl, _, rfl, _, rfl, l, hea, ta, as, ms, ws', ys, rfl, Mk s314, F', s14 _ _ hhe, Sw, s314 _ _ hta, Sy, fun H15 s15 => ?_⟩
          refine ⟨_, _, rfl, _, rfl, ?_⟩
          rw [decide_eq_true rfl]
          exact iteF ⟨_, _, rfl, s314.trans s15, s11b.trans (sT.trans (s13.trans (s14.trans s15)))⟩
        · rintro σ H11 ⟨v10, v11, rfl, s11, s11b⟩
          exact ⟨_, _, _, _, _, _, _, _, _, _, rfl, k3.same s11, Mk s11, Ck s11, s11 _ _ hwl⟩
      · rintro σ H2 ⟨v4, v5, v6, v7, v8, v9, v10, v11, v12, v13, rfl, k2, M, CA, hwl⟩
        exact hNX _ _ ⟨_, _, _, _, _, _, _, _, _, _, rfl, k2, CA⟩
    clear k3 M3 CA3 hwl
    rintro σ H2 ⟨v4, v5, v6, v7, v8, v9, v10, v11, v12, v13, rfl, k2, CA⟩
    obtain ⟨dx, pt, pd, hs, hc1, PA⟩ := id CA.ex
    have noD : (cf pt pd).lookup ("distance" : Str) = none := cf_no _ _ (by decide +kernel) (by decide +kernel)
    have noO : (cf pt pd).lookup ("origin" : Str) = none := cf_no _ _ (by decide +kernel) (by decide +kernel)
    refine ⟨_, rfl, ca, dx, _, rfl, hc1, noD, ?_⟩
    refine ⟨_, rfl, ca, dx, _, rfl, hc1, noO, ca, ms, rfl, CA, hl72, fun H3 o1 s3 n1 h1 => ?_⟩
    refine ⟨_, rfl, ca, dx, _, rfl, s3 _ _ hc1, noO, ca, ms, rfl, CA.mono (Le.of_same s3), hl72, fun H4 o2 s4 n2 h2 => ?_⟩
    have s34 := s3.trans s4
    have S0 := spot_zero ms F'.good
    refine ⟨ca, o1, o2, ms, _, _, rfl, CA.mono (Le.of_same s34), F'.good, hl72, s4 _ _ h1, S0, h2, S0, fun H5 s5 => ?_⟩
    rw [(apart_zero F'.good S0 S0).2 rfl]
    exact ⟨rfl, q _ (k2.same (s34.trans s5))⟩

/-! ### law -/
def spLaw (K : PySem.W.Frag) : Sp := fun vs H Q _ => ∃ (a : Addr) (ns : List Int), vs = [.ref a] ∧ SqL K H a (ns.map V.int) ∧ ns.length ≤ 63 ∧ ∀ H', Q (.bl true) H'
theorem scLaw : FnScope ["_law_script", "_law_k"] ["_law_script"] (defScope sLaw) := ⟨rfl, rfl, rfl, by decide +kernel, rfl, by decide +kernel, by decide +kernel⟩
theorem ok_law {f : Addr} {fd : FuncData} (F : L2.Fun K "law" "law" sLaw f fd) (T : Txt K mg CH CC) (cP : Cal P w K mg base 1 "_law_purse" (spPurse K)) (cR : Cal P w K mg base 8 "_law_right" spRight) : FnOk P w K mg base CX0 9 f fd ["_law_script"] (spLaw K) := by
  refine F.ok scLaw (fun vs H Q E h => ?_) (fun cdv A outer s H vs Q E hr h => ?_)
  · obtain ⟨a, ns, rfl, _⟩ := h
    rfl
  · obtain ⟨a, ns, rfl, hs, hl, q⟩ := h
    refine ⟨_, pss_one (ps_ret (pe_callB (cr_all rfl) (by rfl) T.zall PyProof.Rows.boot_all (pa_cons
      (pe_lc (own := [("_law_k", 1)]) (g := gName 1) (tt := tYes) rfl scLaw.nd (pi_range1 rfl T.zrange (pa_cons (pe_callB (call_max2 rfl) (by rfl) T.zmax PyProof.Rows.boot_max (pa_cons pe_int (pa_cons (pe_callB (call_min2 rfl) (by rfl) T.zmin PyProof.Rows.boot_min (pa_cons pe_int (pa_cons (pe_callB call_len_seq (by rfl) T.zlen boot_len (pa_cons (pv 0) pa_nil)) pa_nil))) pa_nil))) pa_nil))
        (blkOk_by (N := ["_law_script", "_law_k"]) (sc := defScope sLaw) (by decide +kernel)) (fun _ _ _ _ _ => pg_name (i := 1) scLaw.nd rfl (Or.inl rfl)) (fun _ _ _ _ _ => pts_nil)
        (fun _ _ _ _ _ => pe_c cR hr (by decide) (by rfl) (pa_cons (pe_c cP hr (by decide) (by rfl) (pa_cons (pv 0) (pa_cons (pv 1) pa_nil))) pa_nil))) pa_nil))), ?_⟩
    have hsz : (4000 : Nat) < sizeLine := by decide
    refine ⟨_, rfl, a, _, rfl, .inl hs, _, _, rfl, _, _, rfl, ?_⟩
    generalize hk : (if (((ns.map V.int).length : Nat) : Int) < 6 then (((ns.map V.int).length : Nat) : Int) else 6) = k
    have hk2 : 0 ≤ k ∧ k ≤ 6 := by
      rw [← hk]
      split <;> omega
    generalize hn : (if k > 2 then k else 2) = n
    have hn2 : 2 ≤ n ∧ n ≤ 6 := by
      rw [← hn]
      split <;> omega
    refine ⟨n, rfl, by omega, by omega, fun D hD => ?_⟩
    refine lc_range (lo := 0) (n := n.toNat) (fun i H' => Same H H' ∧ H' D = some (.lst ((List.replicate i true).map V.bl))) ⟨same_upd hD, upd_same⟩ ?_ ?_
    · rintro i H1 hi ⟨s1, hd⟩
      refine ⟨rfl, tyes ?_⟩
      refine ⟨_, rfl, _, rfl, a, ns, _, rfl, s1.seq hs, by omega, by omega, by omega, fun H2 p s2 np hp => ?_⟩
      refine ⟨p, rfl, hp, fun H3 k3 => ?_⟩
      have hd3 : H3 D = some (.lst ((List.replicate i true).map V.bl)) := k3.keep _ _ (s2 _ _ hd) (ne_of_none hd np)
      have s3 : Same H H3 := fun b o e => k3.keep b o (s2 _ _ (s1 b o e)) (ne_of_none (s1 b o e) np)
      refine ⟨_, hd3, by rw [List.length_map, List.length_replicate]; omega, same_in s3 hD, ?_⟩
      rw [upd_same, List.replicate_succ', List.map_append]
      rfl
    · rintro H1 ⟨_, hd⟩
      refine ⟨D, _, rfl, SqL.of hd, ?_⟩
      have e1 : (List.replicate n.toNat true).all id = true := List.all_eq_true.mpr fun b hb => by
        rw [List.eq_of_mem_replicate hb]
        rfl
      rw [e1]
      exact q _
end
end DL

/-! from what the top leaves to the law -/
namespace DL
open PySem L2

/-- a def that stands behind the name g -/
structure Glo (K : PySem.W.Frag) (g x qual : Str) (st : Stmt) : Prop where
  ex : ∃ (f : Addr) (fd : FuncData), PySem.W.nsIn K mainGlobals g = some (some (.ref f)) ∧ L2.Fun K x qual st f fd
theorem glo_mk {K : PySem.W.Frag} {g x qual : Str} {st : Stmt} {f : Addr} {oc : Value} {od an : Option Addr} {osl : Array (Option Value)} {kV doc pm cdv ct : Value} (a : PySem.W.nsIn K mainGlobals g = some (some (.ref f)))
    (l : K.lookup f = some ⟨oc, od, .func (PySem.W.fnOf x qual (defArgs st) (defBody st) (defScope st) .none kV doc pm an cdv ct), osl⟩) (c : PySem.W.codeIn K cdv qual = true) (k : PySem.W.keepIn K (.ref f) = true) : Glo K g x qual st :=
  ⟨f, _, a, fun_mk l c k⟩
/-- a method of the class at C -/
structure MetAt (K : PySem.W.Frag) (C : Addr) (m qual : Str) (st : Stmt) : Prop where
  ex : ∃ (f : Addr) (fd : FuncData), Meth K C m f ∧ L2.Fun K m qual st f fd
theorem metAt_mk {K : PySem.W.Frag} {C : Addr} {m qual : Str} {st : Stmt} {f : Addr} {oc : Value} {od an : Option Addr} {osl : Array (Option Value)} {kV doc pm cdv ct : Value} (a : PySem.W.findIn K (.ref C) m = some (some (.ref f))) (i : PySem.W.isFn K (.ref f) = true)
    (l : K.lookup f = some ⟨oc, od, .func (PySem.W.fnOf m qual (defArgs st) (defBody st) (defScope st) .none kV doc pm an cdv ct), osl⟩) (c : PySem.W.codeIn K cdv qual = true) (k : PySem.W.keepIn K (.ref f) = true) : MetAt K C m qual st :=
  ⟨f, _, ⟨a, i, k⟩, fun_mk l c k⟩
/-- House.__init__, with its default -/
structure HouseInitAt (K : PySem.W.Frag) (C : Addr) : Prop where
  ex : ∃ (f : Addr) (fd : FuncData), PySem.W.findIn K (.ref C) "__init__" = some (some (.ref f)) ∧ PySem.W.isFn K (.ref f) = true ∧ C8.Fun K "__init__" "House.__init__" sHouseInit f fd ∧ Binds K fd ["self", "halls", "doors"] []
theorem houseInit_mk {K : PySem.W.Frag} {C : Addr} {f T0 E0 : Addr} {oc cT : Value} {od an dT : Option Addr} {osl sT : Array (Option Value)} {n : Nat} {kV doc pm cdv ct : Value} (a : PySem.W.findIn K (.ref C) "__init__" = some (some (.ref f))) (i : PySem.W.isFn K (.ref f) = true)
    (l : K.lookup f = some ⟨oc, od, .func (PySem.W.fnOf "__init__" "House.__init__" (defArgs sHouseInit) (defBody sHouseInit) (defScope sHouseInit) (.ref T0) kV doc pm an cdv ct), osl⟩) (lT : K.lookup T0 = some ⟨cT, dT, .seq #[.ref E0] n, sT⟩) (c : PySem.W.codeIn K cdv "House.__init__" = true) (k : PySem.W.keepIn K (.ref f) = true) : HouseInitAt K C := by
  have F : FunD K "__init__" "House.__init__" (defArgs sHouseInit) (defBody sHouseInit) (defScope sHouseInit) [V.ref E0] [] f (PySem.W.fnOf "__init__" "House.__init__" (defArgs sHouseInit) (defBody sHouseInit) (defScope sHouseInit) (.ref T0) kV doc pm an cdv ct) :=
    ⟨⟨oc, od, .ref T0, kV, doc, pm, an, cdv, ct, osl, rfl, l, c, .inr ⟨(by simp), T0, _, [.ref E0], n, rfl, lT, rfl, .cons rfl .nil⟩, .inl rfl⟩, k⟩
  obtain ⟨ds, hv, hb⟩ := F.binds1 (ps := ["self", "halls", "doors"]) 3 1 (by simp) rfl fun T kV doc pm an cdv ct us its hl h1 => match us, its, hl, h1 with
    | [_, _, _], [_], _, _ => ⟨_, rfl, rfl⟩
  have hv : Vals ([] : List V) ds := hv
  cases hv
  exact ⟨f, _, a, i, ⟨oc, od, .ref T0, kV, doc, pm, an, cdv, ct, osl, rfl, l, c⟩, hb⟩
section
variable {P : Program} {w : World} {K : PySem.W.Frag} {mg : Str → Option Value} {base h : Heap}
theorem cal_of {k : Nat} {g x qual : Str} {st : Stmt} {sp : Sp} {ps : List Str} (X : K.In h) (G : h.Ns mainGlobals mg) (D : Glo K g x qual st) (ok : ∀ {f : Addr} {fd : FuncData}, L2.Fun K x qual st f fd → FnOk P w K mg base CX0 k f fd ps sp)
    (b : ∀ (kV doc pm : Value) (an : Option Addr) (cdv ct : Value) (us : List Value), us.length = ps.length → bindArgs (PySem.W.fnOf x qual (defArgs st) (defBody st) (defScope st) .none kV doc pm an cdv ct) ⟨us, []⟩ = pure (ps.zip us)) : Cal P w K mg base k g sp := by
  obtain ⟨f, fd, a, F⟩ := D.ex
  exact ⟨f, fd, ps, ok F, PySem.W.mg_of X G a, F.kp, F.binds b⟩
theorem met_of {k : Nat} {C : Addr} {m qual : Str} {st : Stmt} {sp : Sp} {ps : List Str} (c : Cls K C) (D : MetAt K C m qual st) (ok : ∀ {f : Addr} {fd : FuncData}, L2.Fun K m qual st f fd → FnOk P w K mg base CX0 k f fd ps sp)
    (b : ∀ (kV doc pm : Value) (an : Option Addr) (cdv ct : Value) (us : List Value), us.length = ps.length → bindArgs (PySem.W.fnOf m qual (defArgs st) (defBody st) (defScope st) .none kV doc pm an cdv ct) ⟨us, []⟩ = pure (ps.zip us)) : Met P w K mg base k C m sp := by
  obtain ⟨f, fd, M, F⟩ := D.ex
  exact ⟨f, fd, ps, c, M, ok F, F.binds b⟩
end
theorem kw_binds {K : PySem.W.Frag} {f : Addr} {fd : FuncData} (F : L2.Fun K "distance" "Castle.distance" sCDist f fd) : KBinds K fd ["self", "start", "goal"] ["goal", "start"] gKw gKw := by
  obtain ⟨oc, od, kV, doc, pm, an, cdv, ct, osl, rfl, lk, hcd⟩ := F.ex
  refine ⟨fun s us ws _ hl => ?_, fun r1 r2 => ?_⟩
  · match us, ws, hl with
    | [_], [_, _], _ => exact .of_eq rfl
  · cases r1 with
    | nil => exact .nil
    | cons a r1 =>
      cases r1 with
      | cons _ _ => exact .nil
      | nil =>
        cases r2 with
        | nil => exact .nil
        | cons b r2 =>
          cases r2 with
          | nil => exact .nil
          | cons c r2 =>
            cases r2 with
            | cons _ _ => exact .nil
            | nil => exact .cons a (.cons c (.cons b .nil))
set_option maxHeartbeats 0 in
theorem all_mk {l : PySem.W.OpenLaw} {w : World} {K : PySem.W.Frag} {h : Heap} {mg : Str → Option Value} {fa CH CC : Addr} (X : K.In h) (G : h.Ns mainGlobals mg) (hfa : mg "law" = some (.ref fa))
    (z_isinstance : PySem.W.nsIn K mainGlobals "isinstance" = some none)
    (z_int : PySem.W.nsIn K mainGlobals "int" = some none)
    (z_bool : PySem.W.nsIn K mainGlobals "bool" = some none)
    (z_tuple : PySem.W.nsIn K mainGlobals "tuple" = some none)
    (z_str : PySem.W.nsIn K mainGlobals "str" = some none)
    (z_len : PySem.W.nsIn K mainGlobals "len" = some none)
    (z_all : PySem.W.nsIn K mainGlobals "all" = some none)
    (z_sorted : PySem.W.nsIn K mainGlobals "sorted" = some none)
    (z_enumerate : PySem.W.nsIn K mainGlobals "enumerate" = some none)
    (z_range : PySem.W.nsIn K mainGlobals "range" = some none)
    (z_zip : PySem.W.nsIn K mainGlobals "zip" = some none)
    (z_sum : PySem.W.nsIn K mainGlobals "sum" = some none)
    (z_max : PySem.W.nsIn K mainGlobals "max" = some none)
    (z_min : PySem.W.nsIn K mainGlobals "min" = some none)
    (z_set : PySem.W.nsIn K mainGlobals "set" = some none)
    (z_list : PySem.W.nsIn K mainGlobals "list" = some none)
    {t_halls : Tok} (n_halls : PySem.W.nsIn K mainGlobals "MOST_HALLS" = some (some (.int 64 t_halls)))
    {t_cols : Tok} (n_cols : PySem.W.nsIn K mainGlobals "MOST_COLOURS" = some (some (.int 16 t_cols)))
    {t_prts : Tok} (n_prts : PySem.W.nsIn K mainGlobals "MOST_PARTS" = some (some (.int 72 t_prts)))
    {t_letters : Tok} (n_letters : PySem.W.nsIn K mainGlobals "LETTERS" = some (some (.str "abcdefghijklmnopqrstuvwxyz" t_letters)))
    (a_CH : PySem.W.nsIn K mainGlobals "House" = some (some (.ref CH)))
    (a_CC : PySem.W.nsIn K mainGlobals "Castle" = some (some (.ref CC)))
    (pg_CH : PySem.W.plainGet K CH Str.empty = true) (hd_CH : PySem.W.hasDictIn K CH = true) (po_CH : PySem.W.plainOver K CH = true) (sa_CH : PySem.W.findIn K (.ref CH) "__setattr__" = some (some (.builtin "object.__setattr__"))) (mk_CH : PySem.W.makesIn K CH = true) (kc_CH : PySem.W.keepIn K (.ref CH) = true)
    (pg_CC : PySem.W.plainGet K CC Str.empty = true) (hd_CC : PySem.W.hasDictIn K CC = true) (po_CC : PySem.W.plainOver K CC = true) (sa_CC : PySem.W.findIn K (.ref CC) "__setattr__" = some (some (.builtin "object.__setattr__"))) (mk_CC : PySem.W.makesIn K CC = true) (kc_CC : PySem.W.keepIn K (.ref CC) = true)
    (nE : PySem.W.findIn K (.ref CH) "ends" = some none) (nH : PySem.W.findIn K (.ref CH) "halls" = some none) (nD : PySem.W.findIn K (.ref CH) "doors" = some none) (nP : PySem.W.findIn K (.ref CC) "parts" = some none) (nO : PySem.W.findIn K (.ref CC) "part_of" = some none)
    (i_ha : PySem.W.findIn K (.ref CH) "__class__" = some (some (.builtin "object.__class__"))) (i_hn : PySem.W.specialIn K (.builtin "object.__class__") "__get__" = some (some (.builtin "getset_descriptor.__get__"))) (i_tk : PySem.W.takesIn K (.builtin "object.__class__") = some true) (i_hm : PySem.W.mroIn K CH (.type "object") = some true)
    (hInit : HouseInitAt K CH) (cInit : MetAt K CC "__init__" "Castle.__init__" sCastleInit)
    (e_colours : MetAt K CH "colours" "House.colours" sColours)
    (e_origin : MetAt K CC "origin" "Castle.origin" sOrigin)
    (e_dist : MetAt K CC "distance" "Castle.distance" sCDist)
    (d_int : Glo K "is_integer" "is_integer" "is_integer" sInt)
    (d_col : Glo K "is_colour" "is_colour" "is_colour" sCol)
    (d_door : Glo K "is_door" "is_door" "is_door" sDoor)
    (d_chkHouse : Glo K "check_house" "check_house" "check_house" sChkHouse)
    (d_chkHall : Glo K "check_hall" "check_hall" "check_hall" sChkHall)
    (d_endsOf : Glo K "ends_of" "ends_of" "ends_of" sEndsOf)
    (d_reached : Glo K "reached_through" "reached_through" "reached_through" sReached)
    (d_chkEnds : Glo K "check_ends" "check_ends" "check_ends" sChkEnds)
    (d_distFrom : Glo K "distances_from" "distances_from" "distances_from" sDistFrom)
    (d_dist : Glo K "distance_distances" "distance" "distance" sDist)
    (d_chkParts : Glo K "check_castle_parts" "check_castle_parts" "check_castle_parts" sChkParts)
    (d_chkAddr : Glo K "check_address" "check_address" "check_address" sChkAddr)
    (d_purse : Glo K "_law_purse" "_law_purse" "_law_purse" sPurse)
    (d_draw : Glo K "_law_draw" "_law_draw" "_law_draw" sDraw)
    (d_words : Glo K "_law_words" "_law_words" "_law_words" sWords)
    (d_part : Glo K "_law_part" "_law_part" "_law_part" sPart)
    (d_renum : Glo K "_law_renumbered" "_law_renumbered" "_law_renumbered" sRenum)
    (d_crossed : Glo K "_law_crossed" "_law_crossed" "_law_crossed" sCrossed)
    (d_doors : Glo K "_law_doors" "_law_doors" "_law_doors" sDoors)
    (d_house : Glo K "_law_house" "_law_house" "_law_house" sHouse)
    (d_parts : Glo K "_law_parts" "_law_parts" "_law_parts" sParts)
    (d_wide : Glo K "_law_wide" "_law_wide" "_law_wide" sWide)
    (d_owners : Glo K "_law_owners" "_law_owners" "_law_owners" sOwners)
    (d_led : Glo K "_law_led" "_law_led" "_law_led" sLed)
    (d_addr : Glo K "_law_address" "_law_address" "_law_address" sAddr)
    (d_lines : Glo K "_law_lines" "_law_lines" "_law_lines" sLines)
    (d_scene : Glo K "_law_scene" "_law_scene" "_law_scene" sScene)
    (d_castle : Glo K "_law_castle" "_law_castle" "_law_castle" sCastle)
    (d_known : Glo K "_law_known" "_law_known" "_law_known" sKnown)
    (d_far : Glo K "_law_far" "_law_far" "_law_far" sFar)
    (d_apart : Glo K "_law_apart" "_law_apart" "_law_apart" sApart)
    (d_is : Glo K "_law_is" "_law_is" "_law_is" sIs)
    (d_right : Glo K "_law_right" "_law_right" "_law_right" sRight)
    (d_law : Glo K "law" "law" "law" sLaw) :
    ∃ fd : FuncData, (∀ (s : Shared) (v : Value), BindsTo s fd ⟨[v], []⟩ [("_law_script", v)]) ∧ ∀ base : Heap, K.In base → base.Ns mainGlobals mg → FnOk l.prog w K mg base CX0 9 fa fd ["_law_script"] (spLaw K) := by
  have cH : Cls K CH := ⟨pg_CH, hd_CH, po_CH, sa_CH⟩
  have cC : Cls K CC := ⟨pg_CC, hd_CC, po_CC, sa_CC⟩
  have T : Txt K mg CH CC := ⟨PySem.W.mg_none_of X G z_isinstance, PySem.W.mg_none_of X G z_int, PySem.W.mg_none_of X G z_bool, PySem.W.mg_none_of X G z_tuple, PySem.W.mg_none_of X G z_str, PySem.W.mg_none_of X G z_len, PySem.W.mg_none_of X G z_all, PySem.W.mg_none_of X G z_sorted, PySem.W.mg_none_of X G z_enumerate, PySem.W.mg_none_of X G z_range, PySem.W.mg_none_of X G z_zip, PySem.W.mg_none_of X G z_sum, PySem.W.mg_none_of X G z_max, PySem.W.mg_none_of X G z_min, PySem.W.mg_none_of X G z_set, PySem.W.mg_none_of X G z_list,
    ⟨_, PySem.W.mg_of X G n_halls⟩, ⟨_, PySem.W.mg_of X G n_cols⟩, ⟨_, PySem.W.mg_of X G n_prts⟩, ⟨_, PySem.W.mg_of X G n_letters⟩, PySem.W.mg_of X G a_CH, PySem.W.mg_of X G a_CC, cH, cC, nE, nH, nD, nP, nO, ⟨cH, i_ha, i_hn, i_tk, i_hm, if_pos (beq_self_eq_true _)⟩⟩
  obtain ⟨fL, fdL, aL, FL⟩ := d_law.ex
  have e := hfa.symm.trans (PySem.W.mg_of X G aL)
  cases e
  refine ⟨fdL, ?_, fun base _ _ => ?_⟩
  · obtain ⟨oc, od, kV, doc, pm, an, cdv, ct, osl, rfl, lk, hcd⟩ := FL.ex
    exact fun s v => .of_eq rfl
  have m_colours : Met l.prog w K mg base 1 CH "colours" (spColours CH) := met_of (ps := ["self"]) cH e_colours (fun F => ok_colours F T) fun _ _ _ _ _ _ us hl => match us, hl with | [_], _ => rfl
  have m_origin : Met l.prog w K mg base 1 CC "origin" (spOrigin CH CC) := met_of (ps := ["self"]) cC e_origin (fun F => ok_origin F T) fun _ _ _ _ _ _ us hl => match us, hl with | [_], _ => rfl
  have c_int : Cal l.prog w K mg base 1 "is_integer" spInt := cal_of (ps := ["value", "least", "most"]) X G d_int (fun F => ok_int F T) fun _ _ _ _ _ _ us hl => match us, hl with | [_, _, _], _ => rfl
  have c_col : Cal l.prog w K mg base 1 "is_colour" spCol := cal_of (ps := ["value"]) X G d_col (fun F => ok_col F T) fun _ _ _ _ _ _ us hl => match us, hl with | [_], _ => rfl
  have c_door : Cal l.prog w K mg base 2 "is_door" spDoor := cal_of (ps := ["halls", "value"]) X G d_door (fun F => ok_door F T c_int c_col) fun _ _ _ _ _ _ us hl => match us, hl with | [_, _], _ => rfl
  have c_chkHouse : Cal l.prog w K mg base 1 "check_house" (spChkHouse CH) := cal_of (ps := ["value"]) X G d_chkHouse (fun F => ok_chkHouse F T) fun _ _ _ _ _ _ us hl => match us, hl with | [_], _ => rfl
  have c_chkHall : Cal l.prog w K mg base 2 "check_hall" (spChkHall CH) := cal_of (ps := ["house", "value"]) X G d_chkHall (fun F => ok_chkHall F T c_int) fun _ _ _ _ _ _ us hl => match us, hl with | [_, _], _ => rfl
  have c_endsOf : Cal l.prog w K mg base 3 "ends_of" spEndsOf := cal_of (ps := ["halls", "doors"]) X G d_endsOf (fun F => ok_endsOf F T c_door) fun _ _ _ _ _ _ us hl => match us, hl with | [_, _], _ => rfl
  have c_reached : Cal l.prog w K mg base 1 "reached_through" spReached := cal_of (ps := ["ends", "colours"]) X G d_reached (fun F => ok_reached F T) fun _ _ _ _ _ _ us hl => match us, hl with | [_, _], _ => rfl
  have c_chkEnds : Cal l.prog w K mg base 3 "check_ends" (spChkEnds CH) := cal_of (ps := ["house", "start", "goal"]) X G d_chkEnds (fun F => ok_chkEnds F c_chkHouse c_chkHall) fun _ _ _ _ _ _ us hl => match us, hl with | [_, _, _], _ => rfl
  have c_distFrom : Cal l.prog w K mg base 2 "distances_from" (spDistFrom CH) := cal_of (ps := ["house", "start"]) X G d_distFrom (fun F => ok_distFrom F T m_colours) fun _ _ _ _ _ _ us hl => match us, hl with | [_, _], _ => rfl
  have c_dist : Cal l.prog w K mg base 4 "distance_distances" (spDist CH) := cal_of (ps := ["house", "start", "goal"]) X G d_dist (fun F => ok_dist F c_chkEnds c_distFrom) fun _ _ _ _ _ _ us hl => match us, hl with | [_, _, _], _ => rfl
  have c_chkParts : Cal l.prog w K mg base 2 "check_castle_parts" (spChkParts CH) := cal_of (ps := ["value"]) X G d_chkParts (fun F => ok_chkParts F T m_colours) fun _ _ _ _ _ _ us hl => match us, hl with | [_], _ => rfl
  have c_chkAddr : Cal l.prog w K mg base 2 "check_address" (spChkAddr CH CC) := cal_of (ps := ["castle", "value"]) X G d_chkAddr (fun F => ok_chkAddr F T c_int) fun _ _ _ _ _ _ us hl => match us, hl with | [_, _], _ => rfl
  have c_purse : Cal l.prog w K mg base 1 "_law_purse" (spPurse K) := cal_of (ps := ["_law_script", "_law_k"]) X G d_purse (fun F => ok_purse F T) fun _ _ _ _ _ _ us hl => match us, hl with | [_, _], _ => rfl
  have c_draw : Cal l.prog w K mg base 1 "_law_draw" spDraw := cal_of (ps := ["_law_purse_here", "_law_many"]) X G d_draw (fun F => ok_draw F) fun _ _ _ _ _ _ us hl => match us, hl with | [_, _], _ => rfl
  have c_words : Cal l.prog w K mg base 2 "_law_words" spWords := cal_of (ps := ["_law_purse_here", "_law_size"]) X G d_words (fun F => ok_words F T c_draw) fun _ _ _ _ _ _ us hl => match us, hl with | [_, _], _ => rfl
  have c_part : Cal l.prog w K mg base 2 "_law_part" spPart := cal_of (ps := ["_law_purse_here", "_law_most", "_law_words_here"]) X G d_part (fun F => ok_part F T c_draw) fun _ _ _ _ _ _ us hl => match us, hl with | [_, _, _], _ => rfl
  have c_renum : Cal l.prog w K mg base 2 "_law_renumbered" spRenum := cal_of (ps := ["_law_purse_here", "_law_model"]) X G d_renum (fun F => ok_renum F T c_draw) fun _ _ _ _ _ _ us hl => match us, hl with | [_, _], _ => rfl
  have c_crossed : Cal l.prog w K mg base 1 "_law_crossed" spCrossed := cal_of (ps := ["_law_first", "_law_second"]) X G d_crossed (fun F => ok_crossed F T) fun _ _ _ _ _ _ us hl => match us, hl with | [_, _], _ => rfl
  have c_doors : Cal l.prog w K mg base 1 "_law_doors" spDoors := cal_of (ps := ["_law_ends"]) X G d_doors (fun F => ok_doors F T) fun _ _ _ _ _ _ us hl => match us, hl with | [_], _ => rfl
  have k_house : Mak l.prog w K mg base 4 "House" CH (spHouseInit CH) := by
    obtain ⟨f, fd, a, i, F, b⟩ := hInit.ex
    exact ⟨f, fd, _, ⟨mk_CH, a, i, kc_CH⟩, ok_houseInit F T c_int c_endsOf c_reached m_colours, T.gHouse, b⟩
  have c_house : Cal l.prog w K mg base 6 "_law_house" (spHouse CH) := cal_of (ps := ["_law_model"]) X G d_house (fun F => ok_house F k_house c_doors) fun _ _ _ _ _ _ us hl => match us, hl with | [_], _ => rfl
  have c_parts : Cal l.prog w K mg base 3 "_law_parts" spParts := cal_of (ps := ["_law_purse_here", "_law_upto", "_law_most"]) X G d_parts (fun F => ok_parts F T c_draw c_words c_part c_renum c_crossed) fun _ _ _ _ _ _ us hl => match us, hl with | [_, _, _], _ => rfl
  have c_wide : Cal l.prog w K mg base 3 "_law_wide" spWide := cal_of (ps := ["_law_purse_here", "_law_many", "_law_most"]) X G d_wide (fun F => ok_wide F T c_draw c_part) fun _ _ _ _ _ _ us hl => match us, hl with | [_, _, _], _ => rfl
  have c_owners : Cal l.prog w K mg base 1 "_law_owners" spOwners := cal_of (ps := ["_law_models"]) X G d_owners (fun F => ok_owners F T) fun _ _ _ _ _ _ us hl => match us, hl with | [_], _ => rfl
  have c_led : Cal l.prog w K mg base 2 "_law_led" spLed := cal_of (ps := ["_law_models", "_law_spot", "_law_pushes"]) X G d_led (fun F => ok_led F c_owners) fun _ _ _ _ _ _ us hl => match us, hl with | [_, _, _], _ => rfl
  have c_addr : Cal l.prog w K mg base 2 "_law_address" spAddr := cal_of (ps := ["_law_purse_here", "_law_models"]) X G d_addr (fun F => ok_addr F T c_draw) fun _ _ _ _ _ _ us hl => match us, hl with | [_, _], _ => rfl
  have c_lines : Cal l.prog w K mg base 2 "_law_lines" spLines := cal_of (ps := ["_law_purse_here"]) X G d_lines (fun F => ok_lines F T c_draw) fun _ _ _ _ _ _ us hl => match us, hl with | [_], _ => rfl
  have c_scene : Cal l.prog w K mg base 4 "_law_scene" spScene := cal_of (ps := ["_law_purse_here"]) X G d_scene (fun F => ok_scene F c_draw c_wide c_lines c_parts) fun _ _ _ _ _ _ us hl => match us, hl with | [_], _ => rfl
  have k_castle : Mak l.prog w K mg base 3 "Castle" CC (spCastleInit CH CC) := by
    obtain ⟨f, fd, M, F⟩ := cInit.ex
    exact ⟨f, fd, ["self", "parts"], ⟨mk_CC, M.at_, M.fn, kc_CC⟩, ok_castleInit F T c_chkParts m_colours, T.gCastle, F.binds fun _ _ _ _ _ _ us hl => match us, hl with | [_, _], _ => rfl⟩
  have c_castle : Cal l.prog w K mg base 7 "_law_castle" (spCastle CH CC) := cal_of (ps := ["_law_models"]) X G d_castle (fun F => ok_castle F T k_castle c_house) fun _ _ _ _ _ _ us hl => match us, hl with | [_], _ => rfl
  have c_known : Cal l.prog w K mg base 1 "_law_known" spKnown := cal_of (ps := ["_law_models"]) X G d_known (fun F => ok_known F T) fun _ _ _ _ _ _ us hl => match us, hl with | [_], _ => rfl
  have c_far : Cal l.prog w K mg base 2 "_law_far" spFar := cal_of (ps := ["_law_model", "_law_source"]) X G d_far (fun F => ok_far F T c_known) fun _ _ _ _ _ _ us hl => match us, hl with | [_, _], _ => rfl
  have c_apart : Cal l.prog w K mg base 3 "_law_apart" spApart := cal_of (ps := ["_law_models", "_law_source", "_law_target"]) X G d_apart (fun F => ok_apart F T c_far) fun _ _ _ _ _ _ us hl => match us, hl with | [_, _, _], _ => rfl
  have c_is : Cal l.prog w K mg base 1 "_law_is" spIs := cal_of (ps := ["_law_told", "_law_due"]) X G d_is (fun F => ok_is F T) fun _ _ _ _ _ _ us hl => match us, hl with | [_, _], _ => rfl
  have m_dist : Met l.prog w K mg base 5 CC "distance" (spCDist CH CC) := met_of (ps := ["self", "start", "goal"]) cC e_dist (fun F => ok_cdist F T c_chkAddr c_dist) fun _ _ _ _ _ _ us hl => match us, hl with | [_, _, _], _ => rfl
  have mk_dist : MetK l.prog w K mg base 5 CC "distance" ["goal", "start"] (spCDist CH CC) := by
    obtain ⟨f, fd, M, F⟩ := e_dist.ex
    exact ⟨f, fd, ["self", "start", "goal"], cC, M, ok_cdist F T c_chkAddr c_dist, kw_binds F⟩
  have c_right : Cal l.prog w K mg base 8 "_law_right" spRight := cal_of (ps := ["_law_purse_here"]) X G d_right (fun F => ok_right F T c_scene c_castle c_known c_addr c_apart c_is c_led m_dist mk_dist m_origin) fun _ _ _ _ _ _ us hl => match us, hl with | [_], _ => rfl
  exact ok_law FL T c_purse c_right
theorem walk {l : PySem.W.OpenLaw} {q : Program} {loose : List Str} {XP : (Str → Option Value) → Heap → Prop} {YP : World → Heap → Prop} {d : DefRec} {K : Params → PySem.W.Frag} (hn : l.most = some 63) (hdf : d.params.defaults = [])
    (hY : ∀ (w : World) (h : Heap), YP w h → (K w.params).In h)
    (F : ∀ (w : World) (mg : Str → Option Value) (fa : Addr) (h : Heap), (K w.params).In h → h.Ns mainGlobals mg → mg d.name = some (.ref fa) →
      ∃ fd : FuncData, (∀ (s : Shared) (u : Value), BindsTo s fd ⟨[u], []⟩ [("_law_script", u)]) ∧ ∀ base : Heap, (K w.params).In base → base.Ns mainGlobals mg → FnOk l.prog w (K w.params) mg base CX0 9 fa fd ["_law_script"] (spLaw (K w.params))) :
    PySem.W.WalkO q loose XP YP l.row.toRowW d [] (fun f vs => PySem.call f vs) :=
  L2.walk_of (n := 63) (k := 9) (x := "_law_script") (CX := fun _ => CX0) (sp := fun w => spLaw (K w.params)) hn (by decide) hdf ⟨rfl, by decide, by decide⟩ hY F (fun _ _ a ns hl _ hS => ⟨a, ns, rfl, hS, hl, fun _ => rfl⟩) fun _ _ _ _ _ z => z
end DL

open PySem PySem.W PyProof.Rows in
set_option maxRecDepth 100000 in
set_option maxHeartbeats 0 in
theorem PySem.Challenge.cw_doorlots_k64_whole_castle_distances_holds : PySem.Challenge.rw_doorlots_k64_whole_castle_distances.Holds := by
  w_on; o_law; k_head; (case hw => w_witness2)
  k_fill
  refine DL.walk (l := PySem.Challenge.rw_doorlots_k64_whole_castle_distances) rfl rfl (fun w h Y => PySem.W.kIn_of Y) ?F
  case F =>
    intro w mg fa h KX G hmg
    refine' DL.all_mk KX G hmg ?z_isinstance ?z_int ?z_bool ?z_tuple ?z_str ?z_len ?z_all ?z_sorted ?z_enumerate ?z_range ?z_zip ?z_sum ?z_max ?z_min ?z_set ?z_list ?n_halls ?n_cols ?n_prts ?n_letters ?a_CH ?a_CC ?pg_CH ?hd_CH ?po_CH ?sa_CH ?mk_CH ?kc_CH ?pg_CC ?hd_CC ?po_CC ?sa_CC ?mk_CC ?kc_CC ?nE ?nH ?nD ?nP ?nO ?i_ha ?i_hn ?i_tk ?i_hm ?hInit ?cInit ?e_colours ?e_origin ?e_dist ?d_int ?d_col ?d_door ?d_chkHouse ?d_chkHall ?d_endsOf ?d_reached ?d_chkEnds ?d_distFrom ?d_dist ?d_chkParts ?d_chkAddr ?d_purse ?d_draw ?d_words ?d_part ?d_renum ?d_crossed ?d_doors ?d_house ?d_parts ?d_wide ?d_owners ?d_led ?d_addr ?d_lines ?d_scene ?d_castle ?d_known ?d_far ?d_apart ?d_is ?d_right ?d_law
    (case z_isinstance => k_is)
    (case z_int => k_is)
    (case z_bool => k_is)
    (case z_tuple => k_is)
    (case z_str => k_is)
    (case z_len => k_is)
    (case z_all => k_is)
    (case z_sorted => k_is)
    (case z_enumerate => k_is)
    (case z_range => k_is)
    (case z_zip => k_is)
    (case z_sum => k_is)
    (case z_max => k_is)
    (case z_min => k_is)
    (case z_set => k_is)
    (case z_list => k_is)
    (case n_halls => k_is)
    (case n_cols => k_is)
    (case n_prts => k_is)
    (case n_letters => k_is)
    (case a_CH => k_is)
    (case a_CC => k_is)
    (case pg_CH => k_is)
    (case hd_CH => k_is)
    (case po_CH => k_is)
    (case sa_CH => k_is)
    (case mk_CH => k_is)
    (case kc_CH => k_is)
    (case pg_CC => k_is)
    (case hd_CC => k_is)
    (case po_CC => k_is)
    (case sa_CC => k_is)
    (case mk_CC => k_is)
    (case kc_CC => k_is)
    (case nE => k_is)
    (case nH => k_is)
    (case nD => k_is)
    (case nP => k_is)
    (case nO => k_is)
    (case i_ha => k_is)
    (case i_hn => k_is)
    (case i_tk => k_is)
    (case i_hm => k_is)
    (case hInit => refine' DL.houseInit_mk ?a ?i ?l ?t ?c ?k; (case a => k_is); (case i => k_is); (case l => k_is); (case t => k_is); (case c => k_is); (case k => k_is))
    (case cInit => refine' DL.metAt_mk ?a ?i ?l ?c ?k; (case a => k_is); (case i => k_is); (case l => k_is); (case c => k_is); (case k => k_is))
    (case e_colours => refine' DL.metAt_mk ?a ?i ?l ?c ?k; (case a => k_is); (case i => k_is); (case l => k_is); (case c => k_is); (case k => k_is))
    (case e_origin => refine' DL.metAt_mk ?a ?i ?l ?c ?k; (case a => k_is); (case i => k_is); (case l => k_is); (case c => k_is); (case k => k_is))
    (case e_dist => refine' DL.metAt_mk ?a ?i ?l ?c ?k; (case a => k_is); (case i => k_is); (case l => k_is); (case c => k_is); (case k => k_is))
    (case d_int => refine' DL.glo_mk ?a ?l ?c ?k; (case a => k_is); (case l => k_is); (case c => k_is); (case k => k_is))
    (case d_col => refine' DL.glo_mk ?a ?l ?c ?k; (case a => k_is); (case l => k_is); (case c => k_is); (case k => k_is))
    (case d_door => refine' DL.glo_mk ?a ?l ?c ?k; (case a => k_is); (case l => k_is); (case c => k_is); (case k => k_is))
    (case d_chkHouse => refine' DL.glo_mk ?a ?l ?c ?k; (case a => k_is); (case l => k_is); (case c => k_is); (case k => k_is))
    (case d_chkHall => refine' DL.glo_mk ?a ?l ?c ?k; (case a => k_is); (case l => k_is); (case c => k_is); (case k => k_is))
    (case d_endsOf => refine' DL.glo_mk ?a ?l ?c ?k; (case a => k_is); (case l => k_is); (case c => k_is); (case k => k_is))
    (case d_reached => refine' DL.glo_mk ?a ?l ?c ?k; (case a => k_is); (case l => k_is); (case c => k_is); (case k => k_is))
    (case d_chkEnds => refine' DL.glo_mk ?a ?l ?c ?k; (case a => k_is); (case l => k_is); (case c => k_is); (case k => k_is))
    (case d_distFrom => refine' DL.glo_mk ?a ?l ?c ?k; (case a => k_is); (case l => k_is); (case c => k_is); (case k => k_is))
    (case d_dist => refine' DL.glo_mk ?a ?l ?c ?k; (case a => k_is); (case l => k_is); (case c => k_is); (case k => k_is))
    (case d_chkParts => refine' DL.glo_mk ?a ?l ?c ?k; (case a => k_is); (case l => k_is); (case c => k_is); (case k => k_is))
    (case d_chkAddr => refine' DL.glo_mk ?a ?l ?c ?k; (case a => k_is); (case l => k_is); (case c => k_is); (case k => k_is))
    (case d_purse => refine' DL.glo_mk ?a ?l ?c ?k; (case a => k_is); (case l => k_is); (case c => k_is); (case k => k_is))
    (case d_draw => refine' DL.glo_mk ?a ?l ?c ?k; (case a => k_is); (case l => k_is); (case c => k_is); (case k => k_is))
    (case d_words => refine' DL.glo_mk ?a ?l ?c ?k; (case a => k_is); (case l => k_is); (case c => k_is); (case k => k_is))
    (case d_part => refine' DL.glo_mk ?a ?l ?c ?k; (case a => k_is); (case l => k_is); (case c => k_is); (case k => k_is))
    (case d_renum => refine' DL.glo_mk ?a ?l ?c ?k; (case a => k_is); (case l => k_is); (case c => k_is); (case k => k_is))
    (case d_crossed => refine' DL.glo_mk ?a ?l ?c ?k; (case a => k_is); (case l => k_is); (case c => k_is); (case k => k_is))
    (case d_doors => refine' DL.glo_mk ?a ?l ?c ?k; (case a => k_is); (case l => k_is); (case c => k_is); (case k => k_is))
    (case d_house => refine' DL.glo_mk ?a ?l ?c ?k; (case a => k_is); (case l => k_is); (case c => k_is); (case k => k_is))
    (case d_parts => refine' DL.glo_mk ?a ?l ?c ?k; (case a => k_is); (case l => k_is); (case c => k_is); (case k => k_is))
    (case d_wide => refine' DL.glo_mk ?a ?l ?c ?k; (case a => k_is); (case l => k_is); (case c => k_is); (case k => k_is))
    (case d_owners => refine' DL.glo_mk ?a ?l ?c ?k; (case a => k_is); (case l => k_is); (case c => k_is); (case k => k_is))
    (case d_led => refine' DL.glo_mk ?a ?l ?c ?k; (case a => k_is); (case l => k_is); (case c => k_is); (case k => k_is))
    (case d_addr => refine' DL.glo_mk ?a ?l ?c ?k; (case a => k_is); (case l => k_is); (case c => k_is); (case k => k_is))
    (case d_lines => refine' DL.glo_mk ?a ?l ?c ?k; (case a => k_is); (case l => k_is); (case c => k_is); (case k => k_is))
    (case d_scene => refine' DL.glo_mk ?a ?l ?c ?k; (case a => k_is); (case l => k_is); (case c => k_is); (case k => k_is))
    (case d_castle => refine' DL.glo_mk ?a ?l ?c ?k; (case a => k_is); (case l => k_is); (case c => k_is); (case k => k_is))
    (case d_known => refine' DL.glo_mk ?a ?l ?c ?k; (case a => k_is); (case l => k_is); (case c => k_is); (case k => k_is))
    (case d_far => refine' DL.glo_mk ?a ?l ?c ?k; (case a => k_is); (case l => k_is); (case c => k_is); (case k => k_is))
    (case d_apart => refine' DL.glo_mk ?a ?l ?c ?k; (case a => k_is); (case l => k_is); (case c => k_is); (case k => k_is))
    (case d_is => refine' DL.glo_mk ?a ?l ?c ?k; (case a => k_is); (case l => k_is); (case c => k_is); (case k => k_is))
    (case d_right => refine' DL.glo_mk ?a ?l ?c ?k; (case a => k_is); (case l => k_is); (case c => k_is); (case k => k_is))
    (case d_law => refine' DL.glo_mk ?a ?l ?c ?k; (case a => k_is); (case l => k_is); (case c => k_is); (case k => k_is))
