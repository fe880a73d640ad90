import PyProof.Rows.All
import Wide.All
import OpenK.AllK
import Wide.FinOn
import HandS.ForMost
import HandS.More
import HandS.Conv
import HandS.TupSets
import HandS.TupAny
import HandS.IsInst
import HandS.Rev
import HandS.Flow
import HandS.TupLen
import HandS.Strs
import HandS.SetFor
import KE.SortData
import KE.KDictKeyed
import PySem.Challenge.RW_pathask_k32_whole_machines_of_patterns
import HandS.Walk
import HandS.Steps
set_option autoImplicit false
namespace PK
/-! Patterns over leaves, what they fit, and the graph that is laid for them. -/

inductive Pat (L : Type) where
  | leaf (l : L)
  | thn (ps : List (Pat L))
  | eit (ps : List (Pat L))
  | many (p : Pat L)

/-- any number of turns -/
inductive Star (r : Nat → Nat → Prop) : Nat → Nat → Prop
  | refl (i : Nat) : Star r i i
  | head {i k j : Nat} : r i k → Star r k j → Star r i j

theorem Star.trans {r : Nat → Nat → Prop} {i k j : Nat} (h : Star r i k) (h' : Star r k j) : Star r i j := by
  induction h with
  | refl => exact h'
  | head a _ ih => exact .head a (ih h')
theorem Star.tail {r : Nat → Nat → Prop} {i k j : Nat} (h : Star r i k) (h' : r k j) : Star r i j := h.trans (.head h' (.refl _))

section
variable {L : Type}

mutual
/-- the pattern fits the part of the way from place i to place j; one l i j: the leaf's own -/
def Fit (one : L → Nat → Nat → Prop) : Pat L → Nat → Nat → Prop
  | .leaf l => one l
  | .thn ps => FitAll one ps
  | .eit ps => FitAny one ps
  | .many p => Star (Fit one p)
def FitAll (one : L → Nat → Nat → Prop) : List (Pat L) → Nat → Nat → Prop
  | [] => fun i j => i = j
  | p :: ps => fun i j => ∃ k, Fit one p i k ∧ FitAll one ps k j
def FitAny (one : L → Nat → Nat → Prop) : List (Pat L) → Nat → Nat → Prop
  | [] => fun _ _ => False
  | p :: ps => fun i j => Fit one p i j ∨ FitAny one ps i j
end

abbrev Edge (L : Type) := Nat × L × Nat

mutual
/-- the edges from a to b for a pattern, the next free stand n; with the next free one behind -/
def lay (st : L) : Pat L → Nat → Nat → Nat → List (Edge L) × Nat
  | .leaf l, a, b, n => ([(a, l, b)], n)
  | .thn ps, a, b, n => layRow st ps a b n
  | .eit ps, a, b, n => layEit st ps a b n
  | .many p, a, b, n => ((a, st, n) :: (n, st, b) :: (lay st p n n (n + 1)).1, (lay st p n n (n + 1)).2)
def layEit (st : L) : List (Pat L) → Nat → Nat → Nat → List (Edge L) × Nat
  | [], _, _, n => ([], n)
  | p :: ps, a, b, n => ((lay st p a b n).1 ++ (layEit st ps a b (lay st p a b n).2).1, (layEit st ps a b (lay st p a b n).2).2)
def layRow (st : L) : List (Pat L) → Nat → Nat → Nat → List (Edge L) × Nat
  | [], a, b, n => ([(a, st, b)], n)
  | [p], a, b, n => lay st p a b n
  | p :: q :: ps, a, b, n => ((lay st p a n (n + 1)).1 ++ (layRow st (q :: ps) n b (lay st p a n (n + 1)).2).1, (layRow st (q :: ps) n b (lay st p a n (n + 1)).2).2)
end

/-- a path over edges, of so many turns, whose inner stands are of a sort -/
inductive Thr (one : L → Nat → Nat → Prop) (E : List (Edge L)) (I : Nat → Prop) : Nat → Nat → Nat → Nat → Nat → Prop
  | one {a b i j : Nat} {l : L} : (a, l, b) ∈ E → one l i j → Thr one E I 1 i a j b
  | cons {t a c b i k j : Nat} {l : L} : (a, l, c) ∈ E → one l i k → I c → Thr one E I t k c j b → Thr one E I (t + 1) i a j b

variable {one : L → Nat → Nat → Prop} {E E' : List (Edge L)} {I I' : Nat → Prop}

theorem Thr.mono (hE : ∀ e ∈ E, e ∈ E') (hI : ∀ c, I c → I' c) : ∀ {t i a j b}, Thr one E I t i a j b → Thr one E' I' t i a j b := by
  intro t i a j b h
  induction h with
  | one h1 h2 => exact .one (hE _ h1) h2
  | cons h1 h2 h3 _ ih => exact .cons (hE _ h1) h2 (hI _ h3) ih
theorem Thr.append {t u i a k c j b : Nat} (h : Thr one E I t i a k c) (hc : I c) (h' : Thr one E I u k c j b) : ∃ v, Thr one E I v i a j b := by
  induction h with
  | one h1 h2 => exact ⟨_, .cons h1 h2 hc h'⟩
  | cons h1 h2 h3 _ ih =>
    obtain ⟨v, hv⟩ := ih hc h'
    exact ⟨_, .cons h1 h2 h3 hv⟩

/-- the range of stands of a part -/
abbrev In (n m : Nat) : Nat → Prop := fun c => n ≤ c ∧ c < m

/-- the edges of a part: where they go -/
structure Local (es : List (Edge L)) (a b n m : Nat) : Prop where
  le : n ≤ m
  src : ∀ e ∈ es, e.1 = a ∨ In n m e.1
  dst : ∀ e ∈ es, e.2.2 = b ∨ In n m e.2.2

mutual
theorem lay_local (st : L) : ∀ (p : Pat L) (a b n : Nat), Local (lay st p a b n).1 a b n (lay st p a b n).2
  | .leaf l, a, b, n => by
    simp only [lay]
    exact ⟨Nat.le_refl _, fun e he => by simp at he; subst he; exact .inl rfl, fun e he => by simp at he; subst he; exact .inl rfl⟩
  | .thn ps, a, b, n => by simp only [lay]; exact layRow_local st ps a b n
  | .eit ps, a, b, n => by simp only [lay]; exact layEit_local st ps a b n
  | .many p, a, b, n => by
    simp only [lay]
    have h := lay_local st p n n (n + 1)
    have hle := h.le
    refine ⟨by omega, fun e he => ?_, fun e he => ?_⟩
    · rcases List.mem_cons.mp he with rfl | he
      · exact .inl rfl
      rcases List.mem_cons.mp he with rfl | he
      · exact .inr ⟨Nat.le_refl _, by show n < _; omega⟩
      rcases h.src e he with q | q
      · exact .inr ⟨by omega, by omega⟩
      · exact .inr ⟨by have := q.1; omega, q.2⟩
    · rcases List.mem_cons.mp he with rfl | he
      · exact .inr ⟨Nat.le_refl _, by show n < _; omega⟩
      rcases List.mem_cons.mp he with rfl | he
      · exact .inl rfl
      rcases h.dst e he with q | q
      · exact .inr ⟨by omega, by omega⟩
      · exact .inr ⟨by have := q.1; omega, q.2⟩
theorem layEit_local (st : L) : ∀ (ps : List (Pat L)) (a b n : Nat), Local (layEit st ps a b n).1 a b n (layEit st ps a b n).2
  | [], a, b, n => by
    simp only [layEit]
    exact ⟨Nat.le_refl _, (fun e he => by cases he), (fun e he => by cases he)⟩
  | p :: ps, a, b, n => by
    simp only [layEit]
    have h1 := lay_local st p a b n
    have h2 := layEit_local st ps a b (lay st p a b n).2
    have l1 := h1.le
    have l2 := h2.le
    refine ⟨by omega, fun e he => ?_, fun e he => ?_⟩
    · rcases List.mem_append.mp he with he | he
      · rcases h1.src e he with q | q
        · exact .inl q
        · exact .inr ⟨q.1, by have := q.2; omega⟩
      · rcases h2.src e he with q | q
        · exact .inl q
        · exact .inr ⟨by have := q.1; omega, q.2⟩
    · rcases List.mem_append.mp he with he | he
      · rcases h1.dst e he with q | q
        · exact .inl q
        · exact .inr ⟨q.1, by have := q.2; omega⟩
      · rcases h2.dst e he with q | q
        · exact .inl q
        · exact .inr ⟨by have := q.1; omega, q.2⟩
theorem layRow_local (st : L) : ∀ (ps : List (Pat L)) (a b n : Nat), Local (layRow st ps a b n).1 a b n (layRow st ps a b n).2
  | [], a, b, n => by
    simp only [layRow]
    exact ⟨Nat.le_refl _, fun e he => by simp at he; subst he; exact .inl rfl, fun e he => by simp at he; subst he; exact .inl rfl⟩
  | [p], a, b, n => by
    simp only [layRow]
    exact lay_local st p a b n
  | p :: q :: ps, a, b, n => by
    simp only [layRow]
    have h1 := lay_local st p a n (n + 1)
    have h2 := layRow_local st (q :: ps) n b (lay st p a n (n + 1)).2
    have l1 := h1.le
    have l2 := h2.le
    refine ⟨by omega, fun e he => ?_, fun e he => ?_⟩
    · rcases List.mem_append.mp he with he | he
      · rcases h1.src e he with q | q
        · exact .inl q
        · exact .inr ⟨by have := q.1; omega, by have := q.2; omega⟩
      · rcases h2.src e he with q | q
        · exact .inr ⟨by omega, by omega⟩
        · exact .inr ⟨by have := q.1; omega, q.2⟩
    · rcases List.mem_append.mp he with he | he
      · rcases h1.dst e he with q | q
        · exact .inr ⟨by omega, by omega⟩
        · exact .inr ⟨by have := q.1; omega, by have := q.2; omega⟩
      · rcases h2.dst e he with q | q
        · exact .inl q
        · exact .inr ⟨by have := q.1; omega, q.2⟩
end

/-- a path that begins within a part, over edges of which those out of the part are es: it stays there up to the part's end t, or ends within -/
theorem Thr.within {es : List (Edge L)} {s t n m : Nat} (hl : Local es s t n m) (hout : ∀ e ∈ E, In n m e.1 → e ∈ es) :
    ∀ {u i c j b}, Thr one E I u i c j b → In n m c → (∃ v, v ≤ u ∧ Thr one es (In n m) v i c j b ∧ (b = t ∨ In n m b)) ∨ ∃ v k w, w < u ∧ Thr one es (In n m) v i c k t ∧ I t ∧ Thr one E I w k t j b := by
  intro u i c j b h
  induction h with
  | @one a b i j l h1 h2 =>
    intro hc
    have he := hout _ h1 hc
    exact .inl ⟨1, Nat.le_refl _, .one he h2, hl.dst _ he⟩
  | @cons u a c b i k j l h1 h2 h3 h4 ih =>
    intro hc
    have he := hout _ h1 hc
    rcases hl.dst _ he with e | hin
    · have e' : c = t := e
      subst e'
      exact .inr ⟨1, k, u, Nat.lt_succ_self _, .one he h2, h3, h4⟩
    · rcases ih hin with ⟨v, hv, p, q⟩ | ⟨v, k', w, hw, p, ht, r⟩
      · exact .inl ⟨v + 1, by omega, .cons he h2 hin p, q⟩
      · exact .inr ⟨v + 1, k', w, by omega, .cons he h2 hin p, ht, r⟩

/-- the same for a path that begins at the part's begin, its first edge one of the part's -/
theorem Thr.first {es : List (Edge L)} {s t n m : Nat} (hl : Local es s t n m) (hout : ∀ e ∈ E, In n m e.1 → e ∈ es) {u i j b : Nat} (h : Thr one E I u i s j b) (hf : ∀ l c, (s, l, c) ∈ E → (s, l, c) ∈ es) :
    (∃ v, v ≤ u ∧ Thr one es (In n m) v i s j b ∧ (b = t ∨ In n m b)) ∨ ∃ v k w, w < u ∧ Thr one es (In n m) v i s k t ∧ I t ∧ Thr one E I w k t j b := by
  cases h with
  | one h1 h2 => exact .inl ⟨1, Nat.le_refl _, .one (hf _ _ h1) h2, hl.dst _ (hf _ _ h1)⟩
  | @cons u _ c _ _ k _ l h1 h2 h3 h4 =>
    have he := hf _ _ h1
    rcases hl.dst _ he with e | hin
    · have e' : c = t := e
      subst e'
      exact .inr ⟨1, k, u, Nat.lt_succ_self _, .one he h2, h3, h4⟩
    · rcases Thr.within hl hout h4 hin with ⟨v, hv, p, q⟩ | ⟨v, k', w, hw, p, ht, r⟩
      · exact .inl ⟨v + 1, by omega, .cons he h2 hin p, q⟩
      · exact .inr ⟨v + 1, k', w, by omega, .cons he h2 hin p, ht, r⟩

/-- a part's edges go just what fits -/
def Goes (one : L → Nat → Nat → Prop) (r : Nat → Nat → Prop) (es : List (Edge L)) (a b n m : Nat) : Prop := ∀ i j, r i j ↔ ∃ t, Thr one es (In n m) t i a j b

theorem star_goes {r : Nat → Nat → Prop} {es : List (Edge L)} {m n' : Nat} {st : L} {a b : Nat} (hst : ∀ i j, one st i j ↔ i = j) (hg : Goes one r es m m (m + 1) n') (hl : Local es m m (m + 1) n') (ha : a < m) (hb : b < m) :
    Goes one (Star r) ((a, st, m) :: (m, st, b) :: es) a b m n' := by
  have hle := hl.le
  have hout : ∀ e ∈ (a, st, m) :: (m, st, b) :: es, In (m + 1) n' e.1 → e ∈ es := fun e he hi => by
    rcases List.mem_cons.mp he with rfl | he
    · exact absurd hi.1 (by show ¬ m + 1 ≤ a; omega)
    rcases List.mem_cons.mp he with rfl | he
    · exact absurd hi.1 (by show ¬ m + 1 ≤ m; omega)
    exact he
  have sub : ∀ e ∈ es, e ∈ (a, st, m) :: (m, st, b) :: es := fun e he => List.mem_cons_of_mem _ (List.mem_cons_of_mem _ he)
  intro i j
  constructor
  · intro h
    -- from the middle on
    have fromM : ∀ i j, Star r i j → ∃ t, Thr one ((a, st, m) :: (m, st, b) :: es) (In m n') t i m j b := by
      intro i j h
      induction h with
      | refl i => exact ⟨1, .one (l := st) (by simp) ((hst _ _).mpr rfl)⟩
      | head h1 _ ih =>
        obtain ⟨t, ht⟩ := ih
        obtain ⟨u, hu⟩ := (hg _ _).mp h1
        exact (hu.mono sub (fun c hc => ⟨by have := hc.1; omega, hc.2⟩)).append ⟨Nat.le_refl _, by omega⟩ ht
    obtain ⟨t, ht⟩ := fromM i j h
    exact ⟨_, .cons (l := st) (by simp) ((hst _ _).mpr rfl) ⟨Nat.le_refl _, by omega⟩ ht⟩
  · rintro ⟨t, h⟩
    have fromM : ∀ (t i : Nat), Thr one ((a, st, m) :: (m, st, b) :: es) (In m n') t i m j b → Star r i j := by
      intro t
      induction t using Nat.strongRecOn with
      | ind t ih =>
        intro i h
        -- the first edge
        have key : (∃ l c, (m, l, c) ∈ es ∧ True) ∨ True := .inr trivial
        cases h with
        | one h1 h2 =>
          rcases List.mem_cons.mp h1 with e | h1
          · cases e; omega
          rcases List.mem_cons.mp h1 with e | h1
          · cases e
            rw [(hst _ _).mp h2]
            exact .refl _
          · rcases hl.dst _ h1 with q | q
            · have q : b = m := q
              omega
            · have q := q.1
              have : m + 1 ≤ b := q
              omega
        | @cons u _ c _ _ k _ l h1 h2 h3 h4 =>
          rcases List.mem_cons.mp h1 with e | h1
          · cases e; omega
          rcases List.mem_cons.mp h1 with e | h1
          · cases e
            exact absurd h3.1 (by omega)
          · rcases hl.dst _ h1 with q | q
            · have q : c = m := q
              subst q
              exact .head ((hg _ _).mpr ⟨1, .one h1 h2⟩) (ih u (Nat.lt_succ_self _) k h4)
            · rcases Thr.within hl hout h4 q with ⟨v, hv, p, q'⟩ | ⟨v, k', w, hw, p, ht, r'⟩
              · rcases q' with q' | q'
                · omega
                · have := q'.1; omega
              · exact .head ((hg _ _).mpr ⟨_, .cons h1 h2 q p⟩) (ih w (by omega) k' r')
    cases h with
    | one h1 h2 =>
      rcases List.mem_cons.mp h1 with e | h1
      · cases e; omega
      rcases List.mem_cons.mp h1 with e | h1
      · cases e; omega
      · rcases hl.src _ h1 with q | q
        · have q : a = m := q
          omega
        · have : m + 1 ≤ a := q.1
          omega
    | @cons u _ c _ _ k _ l h1 h2 h3 h4 =>
      rcases List.mem_cons.mp h1 with e | h1
      · cases e
        have e' := (hst _ _).mp h2
        subst e'
        exact fromM _ _ h4
      rcases List.mem_cons.mp h1 with e | h1
      · cases e; omega
      · rcases hl.src _ h1 with q | q
        · have q : a = m := q
          omega
        · have : m + 1 ≤ a := q.1
          omega

theorem either_goes {r r' : Nat → Nat → Prop} {es es' : List (Edge L)} {a b n m m' : Nat} (hg : Goes one r es a b n m) (hl : Local es a b n m) (hg' : Goes one r' es' a b m m') (hl' : Local es' a b m m') (ha : a < n) (hb : b < n) :
    Goes one (fun i j => r i j ∨ r' i j) (es ++ es') a b n m' := by
  have l1 := hl.le
  have l2 := hl'.le
  have o1 : ∀ e ∈ es ++ es', In n m e.1 → e ∈ es := fun e he hi => by
    rcases List.mem_append.mp he with he | he
    · exact he
    · rcases hl'.src e he with q | q
      · have := hi.1; omega
      · have := hi.2; have := q.1; omega
  have o2 : ∀ e ∈ es ++ es', In m m' e.1 → e ∈ es' := fun e he hi => by
    rcases List.mem_append.mp he with he | he
    · rcases hl.src e he with q | q
      · have := hi.1; omega
      · have := hi.1; have := q.2; omega
    · exact he
  intro i j
  constructor
  · rintro (h | h)
    · obtain ⟨t, ht⟩ := (hg _ _).mp h
      exact ⟨t, ht.mono (fun e he => List.mem_append_left _ he) fun c hc => ⟨hc.1, by have := hc.2; omega⟩⟩
    · obtain ⟨t, ht⟩ := (hg' _ _).mp h
      exact ⟨t, ht.mono (fun e he => List.mem_append_right _ he) fun c hc => ⟨by have := hc.1; omega, hc.2⟩⟩
  · rintro ⟨t, h⟩
    cases h with
    | one h1 h2 =>
      rcases List.mem_append.mp h1 with h1 | h1
      · exact .inl ((hg _ _).mpr ⟨1, .one h1 h2⟩)
      · exact .inr ((hg' _ _).mpr ⟨1, .one h1 h2⟩)
    | @cons u _ c _ _ k _ l h1 h2 h3 h4 =>
      rcases List.mem_append.mp h1 with h1 | h1
      · rcases hl.dst _ h1 with q | q
        · have q : c = b := q
          have := h3.1
          omega
        · rcases Thr.within hl o1 h4 q with ⟨v, hv, p, q'⟩ | ⟨v, k', w, hw, p, ht, r''⟩
          · exact .inl ((hg _ _).mpr ⟨_, .cons h1 h2 q p⟩)
          · have := ht.1; omega
      · rcases hl'.dst _ h1 with q | q
        · have q : c = b := q
          have := h3.1
          omega
        · rcases Thr.within hl' o2 h4 q with ⟨v, hv, p, q'⟩ | ⟨v, k', w, hw, p, ht, r''⟩
          · exact .inr ((hg' _ _).mpr ⟨_, .cons h1 h2 q p⟩)
          · have := ht.1; omega

theorem then_goes {r r' : Nat → Nat → Prop} {es es' : List (Edge L)} {a b n m m' : Nat} (hg : Goes one r es a n (n + 1) m) (hl : Local es a n (n + 1) m) (hg' : Goes one r' es' n b m m') (hl' : Local es' n b m m') (ha : a < n) (hb : b < n) :
    Goes one (fun i j => ∃ k, r i k ∧ r' k j) (es ++ es') a b n m' := by
  have l1 := hl.le
  have l2 := hl'.le
  have o1 : ∀ e ∈ es ++ es', In (n + 1) m e.1 → e ∈ es := fun e he hi => by
    rcases List.mem_append.mp he with he | he
    · exact he
    · rcases hl'.src e he with q | q
      · have := hi.1; omega
      · have := hi.2; have := q.1; omega
  have o2 : ∀ e ∈ es ++ es', In m m' e.1 → e ∈ es' := fun e he hi => by
    rcases List.mem_append.mp he with he | he
    · rcases hl.src e he with q | q
      · have := hi.1; omega
      · have := hi.1; have := q.2; omega
    · exact he
  have f1 : ∀ l c, (a, l, c) ∈ es ++ es' → (a, l, c) ∈ es := fun l c he => by
    rcases List.mem_append.mp he with he | he
    · exact he
    · rcases hl'.src _ he with q | q
      · have q : a = n := q
        omega
      · have : m ≤ a := q.1
        omega
  have f2 : ∀ l c, (n, l, c) ∈ es ++ es' → (n, l, c) ∈ es' := fun l c he => by
    rcases List.mem_append.mp he with he | he
    · rcases hl.src _ he with q | q
      · have q : n = a := q
        omega
      · have : n + 1 ≤ n := q.1
        omega
    · exact he
  intro i j
  constructor
  · rintro ⟨k, h, h'⟩
    obtain ⟨t, ht⟩ := (hg _ _).mp h
    obtain ⟨u, hu⟩ := (hg' _ _).mp h'
    exact (ht.mono (fun e he => List.mem_append_left es' he) fun c hc => ⟨by have := hc.1; omega, by have := hc.2; omega⟩).append ⟨Nat.le_refl _, by omega⟩
      (hu.mono (fun e he => List.mem_append_right es he) fun c hc => ⟨by have := hc.1; omega, hc.2⟩)
  · rintro ⟨t, h⟩
    rcases Thr.first hl o1 h f1 with ⟨v, hv, p, q'⟩ | ⟨v, k', w, hw, p, ht, r''⟩
    · rcases q' with q' | q'
      · omega
      · have := q'.1; omega
    · refine ⟨k', (hg _ _).mpr ⟨v, p⟩, ?_⟩
      rcases Thr.first hl' o2 r'' f2 with ⟨v, hv, p, q'⟩ | ⟨v, k'', w, hw, p, ht, r'''⟩
      · exact (hg' _ _).mpr ⟨v, p⟩
      · have := ht.1; omega

theorem empty_goes {a b n : Nat} : Goes one (fun _ _ => False) ([] : List (Edge L)) a b n n := fun i j => ⟨fun h => h.elim, fun ⟨t, h⟩ => by cases h with
  | one h1 _ => cases h1
  | cons h1 _ _ _ => cases h1⟩
theorem edge_goes {l : L} {a b n : Nat} (hb : b < n) : Goes one (one l) [(a, l, b)] a b n n := fun i j => ⟨fun h => ⟨1, .one (by simp) h⟩, fun ⟨t, h⟩ => by cases h with
  | one h1 h2 =>
    simp at h1
    subst h1
    exact h2
  | cons h1 h2 h3 _ =>
    exact absurd h3.2 (by have := h3.1; omega)⟩
theorem Goes.iff {r r' : Nat → Nat → Prop} {es : List (Edge L)} {a b n m : Nat} (h : Goes one r es a b n m) (hr : ∀ i j, r' i j ↔ r i j) : Goes one r' es a b n m := fun i j => (hr i j).trans (h i j)

mutual
theorem lay_goes {st : L} (hst : ∀ i j, one st i j ↔ i = j) : ∀ (p : Pat L) (a b n : Nat), a < n → b < n → Goes one (Fit one p) (lay st p a b n).1 a b n (lay st p a b n).2
  | .leaf l, a, b, n, ha, hb => by simp only [lay, Fit]; exact edge_goes hb
  | .thn ps, a, b, n, ha, hb => by simp only [lay, Fit]; exact layRow_goes hst ps a b n ha hb
  | .eit ps, a, b, n, ha, hb => by simp only [lay, Fit]; exact layEit_goes hst ps a b n ha hb
  | .many p, a, b, n, ha, hb => by
    simp only [lay, Fit]
    exact star_goes hst (lay_goes hst p n n (n + 1) (Nat.lt_succ_self _) (Nat.lt_succ_self _)) (lay_local st p n n (n + 1)) ha hb
theorem layEit_goes {st : L} (hst : ∀ i j, one st i j ↔ i = j) : ∀ (ps : List (Pat L)) (a b n : Nat), a < n → b < n → Goes one (FitAny one ps) (layEit st ps a b n).1 a b n (layEit st ps a b n).2
  | [], a, b, n, ha, hb => by simp only [layEit, FitAny]; exact empty_goes
  | p :: ps, a, b, n, ha, hb => by
    simp only [layEit, FitAny]
    have l1 := (lay_local st p a b n).le
    exact either_goes (lay_goes hst p a b n ha hb) (lay_local st p a b n) (layEit_goes hst ps a b _ (by omega) (by omega)) (layEit_local st ps a b _) ha hb
theorem layRow_goes {st : L} (hst : ∀ i j, one st i j ↔ i = j) : ∀ (ps : List (Pat L)) (a b n : Nat), a < n → b < n → Goes one (FitAll one ps) (layRow st ps a b n).1 a b n (layRow st ps a b n).2
  | [], a, b, n, ha, hb => by
    simp only [layRow, FitAll]
    exact (edge_goes (l := st) hb).iff fun i j => (hst i j).symm
  | [p], a, b, n, ha, hb => by
    simp only [layRow, FitAll]
    exact (lay_goes hst p a b n ha hb).iff fun i j => ⟨fun ⟨k, h, e⟩ => e ▸ h, fun h => ⟨j, h, rfl⟩⟩
  | p :: q :: ps, a, b, n, ha, hb => by
    simp only [layRow]
    have l1 := (lay_local st p a n (n + 1)).le
    have h2 := layRow_goes hst (q :: ps) n b (lay st p a n (n + 1)).2 (by omega) (by omega)
    have := then_goes (lay_goes hst p a n (n + 1) (by omega) (by omega)) (lay_local st p a n (n + 1)) h2 (layRow_local st (q :: ps) n b _) ha hb
    exact this.iff fun i j => by simp only [FitAll]
end

/-- what is come to over edges, from stand 0 at place 0 -/
inductive At (one : L → Nat → Nat → Prop) (E : List (Edge L)) : Nat → Nat → Prop
  | begin : At one E 0 0
  | move {i j s t : Nat} {l : L} : At one E i s → (s, l, t) ∈ E → one l i j → At one E j t

/-- a machine of a pattern comes to its end, stand 1, at just the places to which the pattern fits -/
theorem at_end {st : L} (hst : ∀ i j, one st i j ↔ i = j) (p : Pat L) (j : Nat) : At one (lay st p 0 1 2).1 j 1 ↔ Fit one p 0 j := by
  have hl := lay_local st p 0 1 2
  have hle := hl.le
  rw [lay_goes hst p 0 1 2 (by omega) (by omega) 0 j]
  -- what is come to: stand 0 at place 0, or a path
  have fwd : ∀ j s, At one (lay st p 0 1 2).1 j s → (j = 0 ∧ s = 0) ∨ ∃ t, Thr one (lay st p 0 1 2).1 (In 2 (lay st p 0 1 2).2) t 0 0 j s := by
    intro j s h
    induction h with
    | begin => exact .inl ⟨rfl, rfl⟩
    | @move i j s t l h1 h2 h3 ih =>
      refine .inr ?_
      rcases ih with ⟨rfl, rfl⟩ | ⟨u, hu⟩
      · exact ⟨1, .one h2 h3⟩
      · have hs : In 2 (lay st p 0 1 2).2 s := by
          rcases hl.src _ h2 with q | q
          · exfalso
            have q : s = 0 := q
            -- no edge leads to 0
            have last : ∀ {t i a j b}, Thr one (lay st p 0 1 2).1 (In 2 (lay st p 0 1 2).2) t i a j b → b ≠ 0 := by
              intro t i a j b h
              induction h with
              | @one _ b' _ _ _ k1 _ =>
                rcases hl.dst _ k1 with q | q
                · intro e
                  have q' : b' = 1 := q
                  omega
                · intro e
                  have q' : 2 ≤ b' := q.1
                  omega
              | cons _ _ _ _ ih => exact ih
            exact last hu q
          · exact q
        exact hu.append hs (.one h2 h3)
  constructor
  · intro h
    rcases fwd _ _ h with ⟨_, q⟩ | h
    · omega
    · exact h
  · rintro ⟨t, h⟩
    have bwd : ∀ {t i a j b}, Thr one (lay st p 0 1 2).1 (In 2 (lay st p 0 1 2).2) t i a j b → At one (lay st p 0 1 2).1 i a → At one (lay st p 0 1 2).1 j b := by
      intro t i a j b h
      induction h with
      | one k1 k2 => exact fun k => .move k k1 k2
      | cons k1 k2 _ _ ih => exact fun k => ih (.move k k1 k2)
    exact bwd h .begin
end
end PK
set_option Elab.async false
set_option linter.all false
set_option maxRecDepth 100000
set_option autoImplicit false
/-! Tools over the hand layer: data that a heap holds, defs as promises by name. -/
namespace PK
open PySem PySem.Spec PyProof.Rows L2

/-! ### the text -/
def top (i : Nat) : Stmt := PySem.Challenge.pw_pathask_k32_whole_machines_of_patterns.main.body.getD i (.Pass ⟨0, 0, 0, 0⟩)

/-! ### heaps -/
theorem same_new {H : Hp} {p : Addr} {o : HO} (h : H p = none) : Same H (upd H p o) := fun b u e => by
  rw [upd_ne (ne_of_none e h)]
  exact e
theorem same_put {H0 H : Hp} {p : Addr} {o : HO} (s : Same H0 H) (h : H0 p = none) : Same H0 (upd H p o) := fun b u e => by
  rw [upd_ne (ne_of_none e h)]
  exact s _ _ e
theorem same_seqT {K : PySem.W.Frag} {H H' : Hp} {a : Addr} {xs : List V} (e : Same H H') (h : SqT K H a xs) : SqT K H' a xs := by
  rcases h with (h | ⟨o, h⟩) | h
  · exact .inl (.inl (e _ _ h))
  · exact .inl (.inr ⟨o, e _ _ h⟩)
  · exact .inr h
section
variable {K : PySem.W.Frag}
/-! a datum without lists -/
mutual
inductive Dt (K : PySem.W.Frag) (H : Hp) : V → PyData → Prop
  | bl (b : Bool) : Dt K H (.bl b) (.bool b)
  | int (i : Int) : Dt K H (.int i) (.int i)
  | str (x : Str) : Dt K H (.str x) (.str x)
  | tup {a : Addr} {xs : List V} {ds : List PyData} : SqT K H a xs → DtAll K H xs ds → Dt K H (.ref a) (.tuple ds)
inductive DtAll (K : PySem.W.Frag) (H : Hp) : List V → List PyData → Prop
  | nil : DtAll K H [] []
  | cons {v : V} {vs : List V} {d : PyData} {ds : List PyData} : Dt K H v d → DtAll K H vs ds → DtAll K H (v :: vs) (d :: ds)
end
/-- tuples are kept -/
def KeepT (K : PySem.W.Frag) (H H' : Hp) : Prop := ∀ a xs, SqT K H a xs → SqT K H' a xs
theorem keepT_same {H H' : Hp} (e : Same H H') : KeepT K H H' := fun _ _ h => same_seqT e h
theorem keepT_upd {H : Hp} {p : Addr} {o : HO} (h : ∀ xs, H p ≠ some (.tup xs)) (h2 : ∀ ob xs, H p ≠ some (.frz ob (.tup xs))) : KeepT K H (upd H p o) := fun a xs q => by
  rcases q with (q | ⟨ob, q⟩) | q
  · exact .inl (.inl (by rw [upd_ne (fun e => h xs (by rw [← e]; exact q))]; exact q))
  · exact .inl (.inr ⟨ob, by rw [upd_ne (fun e => h2 ob xs (by rw [← e]; exact q))]; exact q⟩)
  · exact .inr q
theorem KeepT.trans {H H1 H2 : Hp} (a : KeepT K H H1) (b : KeepT K H1 H2) : KeepT K H H2 := fun p xs h => b p xs (a p xs h)
theorem KeepT.refl (H : Hp) : KeepT K H H := fun _ _ h => h
mutual
theorem Dt.keep {H H' : Hp} (e : KeepT K H H') : ∀ {d : PyData} {v : V}, Dt K H v d → Dt K H' v d
  | .bool _, _, h => by cases h; exact .bl _
  | .int _, _, h => by cases h; exact .int _
  | .str _, _, h => by cases h; exact .str _
  | .tuple ds, _, h => by
    cases h with
    | tup h1 h2 => exact .tup (e _ _ h1) (DtAll.keep e h2)
  | .none, _, h => by cases h
  | .list _, _, h => by cases h
  | .dict _, _, h => by cases h
theorem DtAll.keep {H H' : Hp} (e : KeepT K H H') : ∀ {ds : List PyData} {vs : List V}, DtAll K H vs ds → DtAll K H' vs ds
  | [], _, h => by cases h; exact .nil
  | d :: ds, _, h => by
    cases h with
    | cons h1 h2 => exact .cons (Dt.keep e h1) (DtAll.keep e h2)
end
theorem Dt.same {H H' : Hp} (e : Same H H') {d : PyData} {v : V} (h : Dt K H v d) : Dt K H' v d := h.keep (keepT_same e)
theorem DtAll.same {H H' : Hp} (e : Same H H') {ds : List PyData} {vs : List V} (h : DtAll K H vs ds) : DtAll K H' vs ds := h.keep (keepT_same e)
mutual
theorem Dt.dp {H : Hp} : ∀ {d : PyData} {v : V}, Dt K H v d → Dp K H v d
  | .bool _, _, h => by cases h; exact .bl _
  | .int _, _, h => by cases h; exact .int _
  | .str _, _, h => by cases h; exact .str _
  | .tuple ds, _, h => by
    cases h with
    | tup h1 h2 => exact .tup h1 (DtAll.dp h2)
  | .none, _, h => by cases h
  | .list _, _, h => by cases h
  | .dict _, _, h => by cases h
theorem DtAll.dp {H : Hp} : ∀ {ds : List PyData} {vs : List V}, DtAll K H vs ds → DpAll K H vs ds
  | [], _, h => by cases h; exact .nil
  | d :: ds, _, h => by
    cases h with
    | cons h1 h2 => exact .cons (Dt.dp h1) (DtAll.dp h2)
end
section
variable {H : Hp}
theorem Dt.tupI {v : V} {ds : List PyData} (h : Dt K H v (.tuple ds)) : ∃ a xs, v = .ref a ∧ SqT K H a xs ∧ DtAll K H xs ds := by
  cases h with
  | tup h1 h2 => exact ⟨_, _, rfl, h1, h2⟩
theorem Dt.intI {v : V} {i : Int} (h : Dt K H v (.int i)) : v = .int i := by cases h; rfl
theorem Dt.strI {v : V} {x : Str} (h : Dt K H v (.str x)) : v = .str x := by cases h; rfl
theorem DtAll.nilI {vs : List V} (h : DtAll K H vs []) : vs = [] := by cases h; rfl
theorem DtAll.consI {vs : List V} {d : PyData} {ds : List PyData} (h : DtAll K H vs (d :: ds)) : ∃ v r, vs = v :: r ∧ Dt K H v d ∧ DtAll K H r ds := by
  cases h with
  | cons h1 h2 => exact ⟨_, _, rfl, h1, h2⟩
theorem DtAll.oneI {vs : List V} {d : PyData} (h : DtAll K H vs [d]) : ∃ v, vs = [v] ∧ Dt K H v d := by
  obtain ⟨v, r, rfl, h1, h2⟩ := h.consI
  rw [h2.nilI]
  exact ⟨v, rfl, h1⟩
theorem DtAll.twoI {vs : List V} {d e : PyData} (h : DtAll K H vs [d, e]) : ∃ v u, vs = [v, u] ∧ Dt K H v d ∧ Dt K H u e := by
  obtain ⟨v, r, rfl, h1, h2⟩ := h.consI
  obtain ⟨u, rfl, h3⟩ := h2.oneI
  exact ⟨v, u, rfl, h1, h3⟩
theorem DtAll.threeI {vs : List V} {d e f : PyData} (h : DtAll K H vs [d, e, f]) : ∃ v u x, vs = [v, u, x] ∧ Dt K H v d ∧ Dt K H u e ∧ Dt K H x f := by
  obtain ⟨v, r, rfl, h1, h2⟩ := h.consI
  obtain ⟨u, x, rfl, h3, h4⟩ := h2.twoI
  exact ⟨v, u, x, rfl, h1, h3, h4⟩
theorem DtAll.length {vs : List V} : ∀ {ds : List PyData}, DtAll K H vs ds → vs.length = ds.length := by
  intro ds h
  induction ds generalizing vs with
  | nil => rw [h.nilI]; rfl
  | cons d ds ih =>
    obtain ⟨v, r, rfl, h1, h2⟩ := h.consI
    rw [List.length_cons, List.length_cons, ih h2]
theorem DtAll.get {ds : List PyData} : ∀ {vs : List V} {i : Nat} {d : PyData}, DtAll K H vs ds → ds[i]? = some d → ∃ v, vs[i]? = some v ∧ Dt K H v d := by
  induction ds with
  | nil => intro vs i d h e; simp at e
  | cons d0 ds ih =>
    intro vs i d h e
    obtain ⟨v, r, rfl, h1, h2⟩ := h.consI
    cases i with
    | zero =>
      simp at e
      subst e
      exact ⟨v, rfl, h1⟩
    | succ i =>
      simp at e
      obtain ⟨u, hu, q⟩ := ih h2 e
      exact ⟨u, by simpa using hu, q⟩
theorem DtAll.getV {ds : List PyData} : ∀ {vs : List V} {i : Nat} {v : V}, DtAll K H vs ds → vs[i]? = some v → ∃ d, ds[i]? = some d ∧ Dt K H v d := by
  induction ds with
  | nil => intro vs i d h e; rw [h.nilI] at e; simp at e
  | cons d0 ds ih =>
    intro vs i d h e
    obtain ⟨v, r, rfl, h1, h2⟩ := h.consI
    cases i with
    | zero =>
      simp at e
      subst e
      exact ⟨d0, rfl, h1⟩
    | succ i =>
      simp at e
      obtain ⟨u, hu, q⟩ := ih h2 e
      exact ⟨u, by simpa using hu, q⟩
theorem DtAll.append {vs us : List V} {ds es : List PyData} (h : DtAll K H vs ds) (h' : DtAll K H us es) : DtAll K H (vs ++ us) (ds ++ es) := by
  induction ds generalizing vs with
  | nil => rw [h.nilI]; exact h'
  | cons d ds ih =>
    obtain ⟨v, r, rfl, h1, h2⟩ := h.consI
    exact .cons h1 (ih h2)
theorem DtAll.of {vs : List V} : ∀ {ds : List PyData}, vs.length = ds.length → (∀ (i : Nat) v d, vs[i]? = some v → ds[i]? = some d → Dt K H v d) → DtAll K H vs ds := by
  induction vs with
  | nil =>
    intro ds hl _
    cases ds with
    | nil => exact .nil
    | cons d ds => simp at hl
  | cons v vs ih =>
    intro ds hl h
    cases ds with
    | nil => simp at hl
    | cons d ds => exact .cons (h 0 v d rfl rfl) (ih (by simpa using hl) fun i v d a b => h (i + 1) v d (by simpa using a) (by simpa using b))
end
end

/-! ### defs by their names -/
section
variable {P : Program} {w : World} {K : PySem.W.Frag} {mg : Str → Option Value} {base : Heap}
/-- the module's name x holds a def that keeps the promise sp, by at most k calls one in another -/
structure Def (P : Program) (w : World) (K : PySem.W.Frag) (mg : Str → Option Value) (base : Heap) (k : Nat) (x : Str) (ps : List Str) (sp : Sp) : Prop where
  ex : ∃ (f : Addr) (fd : FuncData), FnOk P w K mg base CX0 k f fd ps sp ∧ mg x = some (.ref f) ∧ PySem.W.keepIn K (.ref f) = true ∧ Binds K fd ps []
theorem Def.mono {j k : Nat} {x : Str} {ps : List Str} {sp : Sp} (D : Def P w K mg base j x ps sp) (h : j ≤ k) : Def P w K mg base k x ps sp := by
  obtain ⟨f, fd, F, r⟩ := D.ex
  exact ⟨f, fd, F.mono h, r⟩
/-- a method m of the class at C -/
structure MDef (P : Program) (w : World) (K : PySem.W.Frag) (mg : Str → Option Value) (base : Heap) (k : Nat) (C : Addr) (m : Str) (ps : List Str) (sp : Sp) : Prop where
  ex : ∃ (f : Addr) (fd : FuncData), FnOk P w K mg base CX0 k f fd ps sp ∧ Meth K C m f ∧ Binds K fd ps []
theorem MDef.mono {j k : Nat} {C : Addr} {x : Str} {ps : List Str} {sp : Sp} (D : MDef P w K mg base j C x ps sp) (h : j ≤ k) : MDef P w K mg base k C x ps sp := by
  obtain ⟨f, fd, F, r⟩ := D.ex
  exact ⟨f, fd, F.mono h, r⟩
end
section
variable {X : Cx} {k : Nat} {x m : Str} {ps : List Str} {sp : Sp} {p pos apos : Pos} {e o : Expr} {es : List Expr} {t : TA} {ta : TE} {C : Addr}
theorem pe_def (D : Def X.prog X.w X.K X.mg X.base k x ps sp) (hr : Room k X.A) (hg : Gl X x) (ha : PA X (e :: es) t) (hdb : (x == ("__debug__" : Str)) = false := by decide)
    (he : starEach (e :: es) X.env = (false, eval e X.env) :: starEach es X.env := by rfl) (hpl : (backTo pos (starEach es X.env)).any (·.1) = false := by rfl) :
    PE X (.Call (.Name x p) (e :: es) [] pos) (tCall sp [] E0 t) := by
  obtain ⟨f, fd, F, mf, kf, bf⟩ := D.ex
  exact pe_call F hr hg mf kf bf .nil pass0 ha hdb he hpl
theorem pe_def0 (D : Def X.prog X.w X.K X.mg X.base k x ps sp) (hr : Room k X.A) (hg : Gl X x) (hdb : (x == ("__debug__" : Str)) = false := by decide) : PE X (.Call (.Name x p) [] [] pos) (tCall sp [] E0 tNil) := by
  obtain ⟨f, fd, F, mf, kf, bf⟩ := D.ex
  exact pe_call0 F hr hg mf kf bf .nil pass0 hdb
theorem pe_mdef {pl : Sem Bool} (he : PE X o ta) (c : Cls X.K C) (D : MDef X.prog X.w X.K X.mg X.base k C m ps sp) (hr : Room k X.A) (ha : PA X (e :: es) t)
    (hst : starEach (e :: es) X.env = (false, eval e X.env) :: starEach es X.env := by rfl) (hpl : (backTo pos (starEach es X.env)).any (·.1) = false := by rfl)
    (ht : eval (.Call (.Attribute o m apos) (e :: es) [] pos) X.env = (do
      let ov ← eval o X.env
      standAt apos.atName
      let (f, first) ← holding [ov] (getMethod ov m pl)
      callWith pos f first (backTo pos (starEach (e :: es) X.env)) (backToKw pos (keywordEach [] X.env))) := by rfl) :
    PE X (.Call (.Attribute o m apos) (e :: es) [] pos) (tMeth C m sp [] E0 ta t) := by
  obtain ⟨f, fd, F, mf, bf⟩ := D.ex
  exact pe_meth he c mf F hr bf .nil pass0 ha hst hpl ht
theorem pe_mdef0 {pl : Sem Bool} (he : PE X o ta) (c : Cls X.K C) (D : MDef X.prog X.w X.K X.mg X.base k C m ps sp) (hr : Room k X.A)
    (ht : eval (.Call (.Attribute o m apos) [] [] pos) X.env = (do
      let ov ← eval o X.env
      standAt apos.atName
      let (f, first) ← holding [ov] (getMethod ov m pl)
      callWith pos f first (backTo pos (starEach [] X.env)) (backToKw pos (keywordEach [] X.env))) := by rfl) :
    PE X (.Call (.Attribute o m apos) [] [] pos) (tMeth C m sp [] E0 ta tNil) := by
  obtain ⟨f, fd, F, mf, bf⟩ := D.ex
  exact pe_meth0 he c mf F hr bf .nil pass0 ht
end
end PK
set_option Elab.async false
set_option linter.all false
set_option maxRecDepth 100000
set_option autoImplicit false
/-! Leaves and machines as data; the module's names; the dict with nested keys. -/
namespace PK
open PySem PySem.Spec PyProof.Rows L2

/-! ### leaves, patterns, machines as data -/
inductive Leaf where
  | stay
  | step (s w : Str)
  | at (m : Str)
  | off (m : Str)
  deriving DecidableEq
def leafD : Leaf → PyData
  | .stay => .tuple [.str "stay"]
  | .step s w => .tuple [.str "step", .str s, .str w]
  | .at m => .tuple [.str "at", .str m]
  | .off m => .tuple [.str "off", .str m]
abbrev Pt := Pat Leaf
mutual
def patD : Pt → PyData
  | .leaf l => leafD l
  | .thn ps => .tuple [.str "then", .tuple (patDs ps)]
  | .eit ps => .tuple [.str "either", .tuple (patDs ps)]
  | .many p => .tuple [.str "many", patD p]
def patDs : List Pt → List PyData
  | [] => []
  | p :: ps => patD p :: patDs ps
end
theorem patDs_map : ∀ ps : List Pt, patDs ps = ps.map patD
  | [] => by simp only [patDs, List.map_nil]
  | p :: ps => by simp only [patDs, List.map_cons, patDs_map ps]
abbrev Mv := Edge Leaf
def mvD (e : Mv) : PyData := .tuple [.int (e.1 : Nat), leafD e.2.1, .int (e.2.2 : Nat)]
def machD (n : Nat) (ms : List Mv) : PyData := .tuple [.int (n : Nat), .int 0, .tuple [.int 1], .tuple (ms.map mvD)]

/-- where a leaf that is no step holds -/
def holdsB : Leaf → List Str → Bool
  | .stay, _ => true
  | .step _ _, _ => false
  | .at m, ms => ms.any fun y => y == m
  | .off m, ms => !ms.any fun y => y == m
/-- a step that a step fits -/
def stepB : Leaf → Str → Str → Bool
  | .step s w, side, word => s == side && (w == ("*" : Str) || w == word)
  | _, _, _ => false

/-! ### the module's names -/
/-- a tuple of the module -/
def KTup (K : PySem.W.Frag) (a : Addr) (xs : List V) : Prop :=
  ∃ (o : Obj) (its : Array Value) (n : Nat), K.lookup a = some o ∧ o.cls = .type "tuple" ∧ o.data = .seq its n ∧ its.size ≤ sizeLine ∧ Vals xs its.toList
theorem KTup.sqT {K : PySem.W.Frag} {a : Addr} {xs : List V} (h : KTup K a xs) (H : Hp) : SqT K H a xs := .inr h
def leavesV : List V := [.str "stay", .str "step", .str "at", .str "off"]
structure Gs (K : PySem.W.Frag) (mg : Str → Option Value) : Prop where
  len : mg "len" = none
  range : mg "range" = none
  tuple : mg "tuple" = none
  sorted : mg "sorted" = none
  list : mg "list" = none
  reversed : mg "reversed" = none
  min : mg "min" = none
  isinstance : mg "isinstance" = none
  int : mg "int" = none
  bool : mg "bool" = none
  str : mg "str" = none
  set : mg "set" = none
  leaves : ∃ a, mg "LEAVES" = some (.ref a) ∧ KTup K a leavesV
  knots : ∃ t, mg "MOST_KNOTS" = some (.int 40 t)
  ties : ∃ t, mg "MOST_TIES" = some (.int 300 t)
/-- a class that is made without arguments -/
structure MkDef (P : Program) (w : World) (K : PySem.W.Frag) (mg : Str → Option Value) (base : Heap) (k : Nat) (x : Str) (C : Addr) (sp : Sp) : Prop where
  ex : ∃ (f : Addr) (fd : FuncData), Mk K C f ∧ FnOk P w K mg base CX0 k f fd ["self"] sp ∧ mg x = some (.ref C) ∧ Binds K fd ["self"] []
theorem pe_mk0 {X : Cx} {k : Nat} {x : Str} {C : Addr} {sp : Sp} {p pos : Pos} (D : MkDef X.prog X.w X.K X.mg X.base k x C sp) (hr : Room (k + 1) X.A) (hg : Gl X x) (hdb : (x == ("__debug__" : Str)) = false := by decide) :
    PE X (.Call (.Name x p) [] [] pos) (tMake C sp [] E0 tNil) := by
  obtain ⟨f, fd, M, F, m, b⟩ := D.ex
  exact pe_make0 M F hr hg m b .nil pass0 hdb

/-! ### small facts -/
theorem line_big {n : Nat} (h : n ≤ 100000) : n ≤ sizeLine := Nat.le_trans h (by decide)
theorem line_lt {n : Nat} (h : n ≤ 100000) : n < sizeLine := Nat.lt_of_le_of_lt h (by decide)
theorem inV_strs (x : Str) (ms : List Str) : inV (.str x) (ms.map V.str) = ms.any fun y => y == x := by
  unfold inV
  rw [List.any_map]
  rfl
theorem flat_strV (ms : List Str) : (ms.map V.str).all flatV = true := by
  rw [List.all_map]
  exact List.all_eq_true.mpr fun _ _ => rfl
theorem flat_intV (ns : List Int) : (ns.map V.int).all flatV = true := by
  rw [List.all_map]
  exact List.all_eq_true.mpr fun _ _ => rfl
theorem inV_ints (x : Int) (ns : List Int) : inV (.int x) (ns.map V.int) = ns.any fun y => y == x := by
  unfold inV
  rw [List.any_map]
  rfl
theorem at0 {α : Type} {x : α} {r : List α} : atI (x :: r) 0 = some x := atI_nat (j := 0) rfl
theorem at1 {α : Type} {x y : α} {r : List α} : atI (x :: y :: r) 1 = some y := atI_nat (j := 1) rfl
theorem at2 {α : Type} {x y z : α} {r : List α} : atI (x :: y :: z :: r) 2 = some z := atI_nat (j := 2) rfl
theorem at3 {α : Type} {x y z u : α} {r : List α} : atI (x :: y :: z :: u :: r) 3 = some u := atI_nat (j := 3) rfl
theorem decV {x y : Str} : decide (V.str x = V.str y) = (x == y) := dec_str

theorem ite_f {c : Bool} {A B : Prop} (h : c = false) (hb : B) : if c = true then A else B := by
  rw [h]
  exact iteF hb
theorem ite_t {c : Bool} {A B : Prop} (h : c = true) (ha : A) : if c = true then A else B := by
  rw [h]
  exact iteT ha
theorem ite_b {c : Bool} {A B : Prop} (ha : c = true → A) (hb : c = false → B) : if c = true then A else B := by
  cases c with
  | true => exact iteT (ha rfl)
  | false => exact iteF (hb rfl)

/-! ### what a datum looks like -/
def leafV : Leaf → List V
  | .stay => [.str "stay"]
  | .step s w => [.str "step", .str s, .str w]
  | .at m => [.str "at", .str m]
  | .off m => [.str "off", .str m]
abbrev Step := Str × Str × Str
def stD (s : Step) : PyData := .tuple [.str s.1, .str s.2.1, .str s.2.2]
def wayD (k : Str) (ss : List Step) : PyData := .tuple [.str k, .tuple (ss.map stD)]
section
variable {K : PySem.W.Frag} {H : Hp}
theorem leafI {l : Leaf} {v : V} (hL : Dt K H v (leafD l)) : ∃ a, v = .ref a ∧ SqT K H a (leafV l) := by
  cases l with
  | stay =>
    obtain ⟨a, xs, rfl, h1, h2⟩ := hL.tupI
    obtain ⟨v, rfl, h3⟩ := h2.oneI
    rw [h3.strI] at h1
    exact ⟨a, rfl, h1⟩
  | step s w =>
    obtain ⟨a, xs, rfl, h1, h2⟩ := hL.tupI
    obtain ⟨v, u, x, rfl, h3, h4, h5⟩ := h2.threeI
    rw [h3.strI, h4.strI, h5.strI] at h1
    exact ⟨a, rfl, h1⟩
  | «at» m =>
    obtain ⟨a, xs, rfl, h1, h2⟩ := hL.tupI
    obtain ⟨v, u, rfl, h3, h4⟩ := h2.twoI
    rw [h3.strI, h4.strI] at h1
    exact ⟨a, rfl, h1⟩
  | off m =>
    obtain ⟨a, xs, rfl, h1, h2⟩ := hL.tupI
    obtain ⟨v, u, rfl, h3, h4⟩ := h2.twoI
    rw [h3.strI, h4.strI] at h1
    exact ⟨a, rfl, h1⟩
theorem leafMk {l : Leaf} {a : Addr} (h : SqT K H a (leafV l)) : Dt K H (.ref a) (leafD l) := by
  cases l with
  | stay => exact .tup h (.cons (.str _) .nil)
  | step s w => exact .tup h (.cons (.str _) (.cons (.str _) (.cons (.str _) .nil)))
  | «at» m => exact .tup h (.cons (.str _) (.cons (.str _) .nil))
  | off m => exact .tup h (.cons (.str _) (.cons (.str _) .nil))
theorem thnI {ps : List Pt} {v : V} (h : Dt K H v (patD (.thn ps))) : ∃ a b xs, v = .ref a ∧ SqT K H a [.str "then", .ref b] ∧ SqT K H b xs ∧ DtAll K H xs (ps.map patD) := by
  rw [patD] at h
  obtain ⟨a, xs, rfl, h1, h2⟩ := h.tupI
  obtain ⟨v, u, rfl, h3, h4⟩ := h2.twoI
  obtain ⟨b, ys, rfl, h5, h6⟩ := h4.tupI
  rw [h3.strI] at h1
  rw [patDs_map] at h6
  exact ⟨a, b, ys, rfl, h1, h5, h6⟩
theorem eitI {ps : List Pt} {v : V} (h : Dt K H v (patD (.eit ps))) : ∃ a b xs, v = .ref a ∧ SqT K H a [.str "either", .ref b] ∧ SqT K H b xs ∧ DtAll K H xs (ps.map patD) := by
  rw [patD] at h
  obtain ⟨a, xs, rfl, h1, h2⟩ := h.tupI
  obtain ⟨v, u, rfl, h3, h4⟩ := h2.twoI
  obtain ⟨b, ys, rfl, h5, h6⟩ := h4.tupI
  rw [h3.strI] at h1
  rw [patDs_map] at h6
  exact ⟨a, b, ys, rfl, h1, h5, h6⟩
theorem manyI {p : Pt} {v : V} (h : Dt K H v (patD (.many p))) : ∃ a u, v = .ref a ∧ SqT K H a [.str "many", u] ∧ Dt K H u (patD p) := by
  rw [patD] at h
  obtain ⟨a, xs, rfl, h1, h2⟩ := h.tupI
  obtain ⟨v, u, rfl, h3, h4⟩ := h2.twoI
  rw [h3.strI] at h1
  exact ⟨a, u, rfl, h1, h4⟩
theorem mvI {e : Mv} {v : V} (h : Dt K H v (mvD e)) : ∃ a u, v = .ref a ∧ SqT K H a [.int (e.1 : Nat), u, .int (e.2.2 : Nat)] ∧ Dt K H u (leafD e.2.1) := by
  obtain ⟨a, xs, rfl, h1, h2⟩ := Dt.tupI (show Dt K H v (.tuple [.int (e.1 : Nat), leafD e.2.1, .int (e.2.2 : Nat)]) from h)
  obtain ⟨x, y, z, rfl, h3, h4, h5⟩ := h2.threeI
  rw [h3.intI, h5.intI] at h1
  exact ⟨a, y, rfl, h1, h4⟩
theorem machI {n : Nat} {ms : List Mv} {v : V} (h : Dt K H v (machD n ms)) : ∃ a ea ma mvs, v = .ref a ∧ SqT K H a [.int (n : Nat), .int 0, .ref ea, .ref ma] ∧ SqT K H ea [.int 1] ∧ SqT K H ma mvs ∧ DtAll K H mvs (ms.map mvD) := by
  obtain ⟨a, xs, rfl, h1, h2⟩ := Dt.tupI (show Dt K H v (.tuple [.int (n : Nat), .int 0, .tuple [.int 1], .tuple (ms.map mvD)]) from h)
  obtain ⟨x, r, rfl, h3, h4⟩ := h2.consI
  obtain ⟨y, z, u, rfl, h5, h6, h7⟩ := h4.threeI
  obtain ⟨ea, es, rfl, h8, h9⟩ := h6.tupI
  obtain ⟨e1, rfl, h10⟩ := h9.oneI
  obtain ⟨ma, mvs, rfl, h11, h12⟩ := h7.tupI
  rw [h3.intI, h5.intI] at h1
  rw [h10.intI] at h8
  exact ⟨a, ea, ma, mvs, rfl, h1, h8, h11, h12⟩
theorem stI {s : Step} {v : V} (h : Dt K H v (stD s)) : ∃ a, v = .ref a ∧ SqT K H a [.str s.1, .str s.2.1, .str s.2.2] := by
  obtain ⟨a, xs, rfl, h1, h2⟩ := Dt.tupI (show Dt K H v (.tuple [.str s.1, .str s.2.1, .str s.2.2]) from h)
  obtain ⟨x, y, z, rfl, h3, h4, h5⟩ := h2.threeI
  rw [h3.strI, h4.strI, h5.strI] at h1
  exact ⟨a, rfl, h1⟩
theorem stMk {s : Step} {a : Addr} (h : SqT K H a [.str s.1, .str s.2.1, .str s.2.2]) : Dt K H (.ref a) (stD s) := .tup h (.cons (.str _) (.cons (.str _) (.cons (.str _) .nil)))
theorem wayI {k : Str} {ss : List Step} {v : V} (h : Dt K H v (wayD k ss)) : ∃ a b sv, v = .ref a ∧ SqT K H a [.str k, .ref b] ∧ SqT K H b sv ∧ DtAll K H sv (ss.map stD) := by
  obtain ⟨a, xs, rfl, h1, h2⟩ := Dt.tupI (show Dt K H v (.tuple [.str k, .tuple (ss.map stD)]) from h)
  obtain ⟨v, u, rfl, h3, h4⟩ := h2.twoI
  obtain ⟨b, ys, rfl, h5, h6⟩ := h4.tupI
  rw [h3.strI] at h1
  exact ⟨a, b, ys, rfl, h1, h5, h6⟩
/-- an item of a tuple of data -/
theorem DtAll.mapGet {α : Type} {enc : α → PyData} {xs : List V} {as : List α} (h : DtAll K H xs (as.map enc)) {i : Nat} {v : V} (e : xs[i]? = some v) : ∃ x, as[i]? = some x ∧ Dt K H v (enc x) := by
  obtain ⟨d, hd, q⟩ := h.getV e
  rw [List.getElem?_map] at hd
  cases ha : as[i]? with
  | none => rw [ha] at hd; cases hd
  | some x =>
    rw [ha] at hd
    cases hd
    exact ⟨x, rfl, q⟩
theorem DtAll.mapLen {α : Type} {enc : α → PyData} {xs : List V} {as : List α} (h : DtAll K H xs (as.map enc)) : xs.length = as.length := by
  rw [h.length, List.length_map]
end

def rLenS (K : PySem.W.Frag) : List V → Hp → VK → Prop := fun xs H Q => ∃ p ys, xs = [.ref p] ∧ (SqL K H p ys ∨ SqT K H p ys) ∧ Q (.int ys.length) H
theorem len_seq {X : Cx} : CallR X (.builtin "len") (rLenS X.K) := call_len_seq
end PK
set_option Elab.async false
set_option linter.all false
set_option maxRecDepth 100000
set_option autoImplicit false
set_option maxHeartbeats 1000000
/-! holds_at, is_step_by -/
namespace PK
open PySem PySem.Spec PyProof.Rows L2
section
variable {P : Program} {w : World} {K : PySem.W.Frag} {mg : Str → Option Value} {base : Heap}

abbrev sholds_at : Stmt := top 5
abbrev Nscholds_at : List Str := ["leaf", "marks"]
theorem scholds_at : FnScope Nscholds_at ["leaf", "marks"] (defScope sholds_at) := ⟨rfl, rfl, rfl, by decide +kernel, rfl, by decide +kernel, by decide +kernel⟩
def spHolds (K : PySem.W.Frag) : Sp := fun vs H Q _ => ∃ (lv : V) (m : Addr) (l : Leaf) (ms : List Str), vs = [lv, .ref m] ∧ Dt K H lv (leafD l) ∧ SqL K H m (ms.map V.str) ∧ Q (.bl (holdsB l ms)) H
theorem ok_holds {f : Addr} {fd : FuncData} (F : Fun K "holds_at" "holds_at" sholds_at f fd) : FnOk P w K mg base CX0 1 f fd ["leaf", "marks"] (spHolds K) := by
  refine F.ok scholds_at (fun vs H Q E h => ?_) (fun cdv A outer s H vs Q E hr h => ?_)
  · obtain ⟨lv, m, l, ms, rfl, _⟩ := h
    rfl
  obtain ⟨lv, m, l, ms, rfl, hL, hM, q⟩ := h
  refine ⟨_, (pss_cons (ps_if (pt_cmpR op_eq (pe_ix ix_tup (pv 0) pe_int (fun _ _ => rfl)) pe_str (nomark _)) (pss_one (ps_ret (pe_cmpR op_in_seq (pe_ix ix_tup (pv 0) pe_int (fun _ _ => rfl)) (pv 1) (by with_unfolding_all rfl)))) pss_nil) (pss_cons (ps_if (pt_cmpR op_eq (pe_ix ix_tup (pv 0) pe_int (fun _ _ => rfl)) pe_str (nomark _)) (pss_one (ps_ret (pe_cmpR op_notIn_seq (pe_ix ix_tup (pv 0) pe_int (fun _ _ => rfl)) (pv 1) (by with_unfolding_all rfl)))) pss_nil) (pss_one (ps_ret (pe_cmpR op_eq (pe_ix ix_tup (pv 0) pe_int (fun _ _ => rfl)) pe_str (nomark _)))))), ?_⟩
  obtain ⟨a, rfl, hT⟩ := leafI hL
  rcases l with _ | ⟨s', w'⟩ | m' | m'
  · refine ⟨_, rfl, a, _, 0, _, rfl, rfl, hT, at0, rfl, _, rfl, ite_f (by decide +kernel) ?_⟩
    refine ⟨_, rfl, a, _, 0, _, rfl, rfl, hT, at0, rfl, _, rfl, ite_f (by decide +kernel) ?_⟩
    refine ⟨_, rfl, a, _, 0, _, rfl, rfl, hT, at0, rfl, ?_⟩
    exact q
  · refine ⟨_, rfl, a, _, 0, _, rfl, rfl, hT, at0, rfl, _, rfl, ite_f (by decide +kernel) ?_⟩
    refine ⟨_, rfl, a, _, 0, _, rfl, rfl, hT, at0, rfl, _, rfl, ite_f (by decide +kernel) ?_⟩
    refine ⟨_, rfl, a, _, 0, _, rfl, rfl, hT, at0, rfl, ?_⟩
    exact q
  · refine ⟨_, rfl, a, _, 0, _, rfl, rfl, hT, at0, rfl, _, rfl, ite_t (by decide +kernel) ?_⟩
    refine ⟨_, rfl, a, _, 1, _, rfl, rfl, hT, at1, _, rfl, m, _, rfl, .inl hM, rfl, flat_strV ms, ?_⟩
    rw [if_neg Bool.false_ne_true, inV_strs]
    exact q
  · refine ⟨_, rfl, a, _, 0, _, rfl, rfl, hT, at0, rfl, _, rfl, ite_f (by decide +kernel) ?_⟩
    refine ⟨_, rfl, a, _, 0, _, rfl, rfl, hT, at0, rfl, _, rfl, ite_t (by decide +kernel) ?_⟩
    refine ⟨_, rfl, a, _, 1, _, rfl, rfl, hT, at1, _, rfl, m, _, rfl, .inl hM, rfl, flat_strV ms, ?_⟩
    rw [if_pos rfl, inV_strs]
    exact q

abbrev sis_step_by : Stmt := top 6
abbrev Nscis_step_by : List Str := ["leaf", "side", "word"]
theorem scis_step_by : FnScope Nscis_step_by ["leaf", "side", "word"] (defScope sis_step_by) := ⟨rfl, rfl, rfl, by decide +kernel, rfl, by decide +kernel, by decide +kernel⟩
def spStepBy (K : PySem.W.Frag) : Sp := fun vs H Q _ => ∃ (lv : V) (l : Leaf) (side word : Str), vs = [lv, .str side, .str word] ∧ Dt K H lv (leafD l) ∧ ∀ H', Same H H' → Q (.bl (stepB l side word)) H'
theorem ok_stepBy {f : Addr} {fd : FuncData} (F : Fun K "is_step_by" "is_step_by" sis_step_by f fd) : FnOk P w K mg base CX0 1 f fd ["leaf", "side", "word"] (spStepBy K) := by
  refine F.ok scis_step_by (fun vs H Q E h => ?_) (fun cdv A outer s H vs Q E hr h => ?_)
  · obtain ⟨lv, l, side, word, rfl, _⟩ := h
    rfl
  obtain ⟨lv, l, side, word, rfl, hL, q⟩ := h
  refine ⟨_, (pss_one (ps_ret (pe_and (pe_cmpR op_eq (pe_ix ix_tup (pv 0) pe_int (fun _ _ => rfl)) pe_str (nomark _)) (pe_and (pe_cmpR op_eq (pe_ix ix_tup (pv 0) pe_int (fun _ _ => rfl)) (pv 1) (nomark _)) (pe_one (pe_cmpR op_in_seq (pe_ix ix_tup (pv 0) pe_int (fun _ _ => rfl)) (pe_tup (pa_cons pe_str (pa_cons (pv 2) pa_nil))) (by with_unfolding_all rfl))))))), ?_⟩
  obtain ⟨a, rfl, hT⟩ := leafI hL
  rcases l with _ | ⟨s', w'⟩ | m' | m'
  · refine ⟨_, rfl, a, _, 0, _, rfl, rfl, hT, at0, rfl, _, rfl, ite_f (by decide +kernel) ?_⟩
    exact q _ (Same.refl H)
  · refine ⟨_, rfl, a, _, 0, _, rfl, rfl, hT, at0, rfl, _, rfl, ite_t (by decide +kernel) ?_⟩
    refine ⟨_, rfl, a, _, 1, _, rfl, rfl, hT, at1, _, rfl, rfl, _, rfl, ?_⟩
    rw [decV]
    by_cases hs : (s' == side) = true
    · refine ite_t hs ?_
      refine ⟨_, rfl, a, _, 2, _, rfl, rfl, hT, at2, _, rfl, by show 2 ≤ sizeLine; decide, fun t ht => ?_⟩
      refine ⟨t, _, rfl, .inr (SqT.of upd_same), rfl, rfl, ?_⟩
      rw [if_neg Bool.false_ne_true]
      have e : inV (.str w') [.str "*", .str word] = stepB (.step s' w') side word := by
        show (("*" == w') || ((word == w') || false)) = (s' == side && (w' == "*" || w' == word))
        rw [hs, Bool.or_false, Bool.true_and, BEq.comm (a := w') (b := "*"), BEq.comm (a := w') (b := word)]
      rw [e]
      exact q _ (same_new ht)
    · refine ite_f (by simpa using hs) ?_
      have e : stepB (.step s' w') side word = false := by
        show (s' == side && (w' == "*" || w' == word)) = false
        rw [show (s' == side) = false by simpa using hs]
        rfl
      rw [e] at q
      exact q _ (Same.refl H)
  · refine ⟨_, rfl, a, _, 0, _, rfl, rfl, hT, at0, rfl, _, rfl, ite_f (by decide +kernel) ?_⟩
    exact q _ (Same.refl H)
  · refine ⟨_, rfl, a, _, 0, _, rfl, rfl, hT, at0, rfl, _, rfl, ite_f (by decide +kernel) ?_⟩
    exact q _ (Same.refl H)
end
end PK
set_option Elab.async false
set_option linter.all false
set_option maxRecDepth 100000
set_option autoImplicit false
/-! Lists of small numbers: as values, as a dict's keys. -/
namespace PK
open PySem PySem.Spec PyProof.Rows L2

abbrev intsV (ss : List Nat) : List V := ss.map fun s => V.int (s : Nat)
theorem intsV_eq (ss : List Nat) : intsV ss = (ss.map fun s => ((s : Nat) : Int)).map V.int := by
  rw [List.map_map]
  rfl
theorem flat_intsV (ss : List Nat) : (intsV ss).all flatV = true := by
  rw [intsV_eq]
  exact flat_intV _
theorem inV_nat (x : Nat) (ss : List Nat) : inV (.int (x : Nat)) (intsV ss) = decide (x ∈ ss) := by
  rw [intsV_eq, inV_ints, List.any_map, Bool.eq_iff_iff, List.any_eq_true, decide_eq_true_eq]
  constructor
  · rintro ⟨y, hy, e⟩
    have e' : ((y : Nat) : Int) = (x : Nat) := by simpa using e
    have : y = x := by omega
    rw [← this]
    exact hy
  · intro h
    exact ⟨x, h, by simp⟩
/-- one more, if it isn't there -/
def insS {α : Type} [DecidableEq α] (ks : List α) (k : α) : List α := if k ∈ ks then ks else ks ++ [k]
section
variable {α : Type} [DecidableEq α]
theorem mem_insS {ks : List α} {k z : α} : z ∈ insS ks k ↔ z ∈ ks ∨ z = k := by
  unfold insS
  split
  · rename_i h
    exact ⟨fun q => .inl q, fun q => q.elim id fun e => e ▸ h⟩
  · rw [List.mem_append, List.mem_singleton]
theorem nodup_insS {ks : List α} {k : α} (h : ks.Nodup) : (insS ks k).Nodup := by
  unfold insS
  split
  · exact h
  · rename_i hk
    exact List.nodup_append.mpr ⟨h, by simp, fun a ha b hb => by rw [List.mem_singleton.mp hb]; exact fun e => hk (e ▸ ha)⟩
theorem length_insS (ks : List α) (k : α) : (insS ks k).length ≤ ks.length + 1 := by
  unfold insS
  split
  · omega
  · simp
theorem insS_new {ks : List α} {k : α} (h : k ∉ ks) : insS ks k = ks ++ [k] := if_neg h
theorem insS_old {ks : List α} {k : α} (h : k ∈ ks) : insS ks k = ks := if_pos h
end
/-- a dict of True at small numbers -/
def natD (ks : List Nat) : List (Key × V) := ks.map fun k => (Sum.inl (k : Nat), V.bl true)
theorem natD_len (ks : List Nat) : (natD ks).length = ks.length := List.length_map _
theorem natD_keys (ks : List Nat) : (natD ks).map (·.1) = (ks.map fun k => ((k : Nat) : Int)).map Sum.inl := by
  unfold natD
  rw [List.map_map, List.map_map]
  rfl
theorem natD_val (ks : List Nat) (k : Nat) : valV (natD ks) (Sum.inl (k : Nat)) = if k ∈ ks then some (.bl true) else none := by
  induction ks with
  | nil => rfl
  | cons a r ih =>
    by_cases e : a = k
    · subst e
      rw [if_pos List.mem_cons_self]
      exact valV_pos rfl
    · have q : valV (natD (a :: r)) (Sum.inl (k : Nat)) = valV (natD r) (Sum.inl (k : Nat)) := valV_neg (p := (Sum.inl ((a : Nat) : Int), V.bl true)) (fun z => e (by have := Sum.inl.inj z; omega))
      rw [q, ih]
      by_cases h : k ∈ r
      · rw [if_pos h, if_pos (List.mem_cons_of_mem _ h)]
      · rw [if_neg h, if_neg (fun z => (List.mem_cons.mp z).elim (fun z => e z.symm) h)]
theorem natD_isSome (ks : List Nat) (k : Nat) : (valV (natD ks) (Sum.inl (k : Nat))).isSome = decide (k ∈ ks) := by
  rw [natD_val]
  by_cases h : k ∈ ks
  · rw [if_pos h, decide_eq_true h]; rfl
  · rw [if_neg h, decide_eq_false h]; rfl
theorem natD_put (ks : List Nat) (k : Nat) : putK (natD ks) (Sum.inl (k : Nat)) (.bl true) = natD (insS ks k) := by
  by_cases h : k ∈ ks
  · rw [insS_old h]
    have hs : ((natD ks).any fun kv => decide (kv.1 = Sum.inl ((k : Nat) : Int))) = true := by rw [valV_any, natD_isSome, decide_eq_true h]
    unfold putK
    rw [if_pos hs]
    unfold natD
    rw [List.map_map]
    refine List.map_congr_left fun x _ => ?_
    by_cases e : (Sum.inl ((x : Nat) : Int) : Key) = Sum.inl ((k : Nat) : Int)
    · simp only [Function.comp, if_pos e]
    · simp only [Function.comp, if_neg e]
  · rw [insS_new h, putK_new _ (by rw [natD_val, if_neg h])]
    unfold natD
    rw [List.map_append]
    rfl
/-- few, if each is small -/
theorem nodup_few {ks : List Nat} {n : Nat} (h : ks.Nodup) (hb : ∀ k ∈ ks, k < n) : ks.length ≤ n := by
  have := nat_nodup_len ks (List.range n) h fun x hx => List.mem_range.mpr (hb x hx)
  rwa [List.length_range] at this
/-- a permutation of small numbers, as numbers -/
theorem nats_of_perm {ys : List Int} {ks : List Nat} (h : ys.Perm (ks.map fun k => ((k : Nat) : Int))) : ∃ zs : List Nat, ys.map V.int = intsV zs ∧ zs.Perm ks := by
  refine ⟨ys.map Int.toNat, ?_, ?_⟩
  · unfold intsV
    rw [List.map_map]
    refine List.map_congr_left fun y hy => ?_
    obtain ⟨k, _, e⟩ := List.mem_map.mp (h.mem_iff.mp hy)
    show V.int y = V.int ((y.toNat : Nat) : Int)
    exact congrArg V.int (by omega)
  · have q := h.map Int.toNat
    rw [List.map_map] at q
    have e : ks.map (Int.toNat ∘ fun k => ((k : Nat) : Int)) = ks := by
      refine (List.map_congr_left fun k _ => ?_).trans (List.map_id' _)
      show ((k : Nat) : Int).toNat = k
      omega
    rwa [e] at q
theorem decI {x y : Nat} : decide (V.int (x : Nat) = V.int (y : Nat)) = decide (x = y) := by
  rw [Bool.eq_iff_iff, decide_eq_true_eq, decide_eq_true_eq]
  constructor
  · intro e
    have := V.int.inj e
    omega
  · intro e
    rw [e]

/-! ### lists compared with an empty one -/
abbrev intsD (ls : List Nat) : List PyData := ls.map fun s => PyData.int (s : Nat)
theorem dp_ints {K : PySem.W.Frag} {H : Hp} : ∀ ls : List Nat, DpAll K H (intsV ls) (intsD ls)
  | [] => .nil
  | a :: r => .cons (.int _) (dp_ints r)
theorem lay_ints : ∀ ls : List Nat, PyData.canLayAll0 (intsD ls) = true
  | [] => rfl
  | a :: r => by
    show (true && PyData.canLayAll0 (intsD r)) = true
    rw [lay_ints r]
    rfl
theorem depth_ints' : ∀ ls : List Nat, PyData.depthAll (intsD ls) = 0
  | [] => rfl
  | a :: r => by
    show max 0 (PyData.depthAll (intsD r)) = 0
    rw [depth_ints' r]
    rfl
theorem shaped_ints (ls : List Nat) : SeqAt.shaped (.list (intsD ls)) = true := by
  unfold SeqAt.shaped
  rw [Bool.and_eq_true, decide_eq_true_eq]
  refine ⟨lay_ints ls, ?_⟩
  show PyData.depthAll (intsD ls) + 1 ≤ 64
  rw [depth_ints']
  decide
theorem shaped_nil : SeqAt.shaped (.list []) = true := rfl
theorem shaped_nilT : SeqAt.shaped (.tuple []) = true := rfl
theorem eqv_nil (ds : List PyData) : PyData.eqv (.list ds) (.list []) = ds.isEmpty := by
  cases ds <;> simp [PyData.eqv, PyData.eqvAll]
theorem eqv_nilT (ds : List PyData) : PyData.eqv (.tuple ds) (.tuple []) = ds.isEmpty := by
  cases ds <;> simp [PyData.eqv, PyData.eqvAll]

/-! ### moves without steps -/
def Nul (ms : List Mv) (mk : List Str) (s t : Nat) : Prop := ∃ e ∈ ms, e.1 = s ∧ holdsB e.2.1 mk = true ∧ e.2.2 = t
/-- a set that is closed, holds the begins and holds nothing else than what is come to -/
theorem closed_star {r : Nat → Nat → Prop} {ss ks : List Nat} (h1 : ∀ z ∈ ks, ∃ s ∈ ss, Star r s z) (h2 : ∀ s ∈ ss, s ∈ ks) (h3 : ∀ z ∈ ks, ∀ t, r z t → t ∈ ks) (z : Nat) : z ∈ ks ↔ ∃ s ∈ ss, Star r s z := by
  refine ⟨h1 z, ?_⟩
  rintro ⟨s, hs, h⟩
  have key : ∀ {i j}, Star r i j → i ∈ ks → j ∈ ks := by
    intro i j h
    induction h with
    | refl => exact id
    | head a _ ih => exact fun hi => ih (h3 _ hi _ a)
  exact key h (h2 s hs)
end PK
set_option Elab.async false
set_option linter.all false
set_option maxRecDepth 100000
set_option autoImplicit false
set_option maxHeartbeats 2000000
/-! stepped, come_to, has_end -/
namespace PK
open PySem PySem.Spec PyProof.Rows L2
section
variable {P : Program} {w : World} {K : PySem.W.Frag} {mg : Str → Option Value} {base : Heap}
/-- all stands of the moves are below 60 -/
def MvOk (ms : List Mv) : Prop := ms.length ≤ 1000 ∧ ∀ e ∈ ms, e.1 < 60 ∧ e.2.2 < 60

abbrev sstepped : Stmt := top 8
abbrev Nscstepped : List Str := ["machine", "stands", "side", "word", "met", "one", "leaf", "other"]
theorem scstepped : FnScope Nscstepped ["machine", "stands", "side", "word"] (defScope sstepped) := ⟨rfl, rfl, rfl, by decide +kernel, rfl, by decide +kernel, by decide +kernel⟩
def spStepped (K : PySem.W.Frag) : Sp := fun vs H Q _ => ∃ (mv : V) (st : Addr) (n : Nat) (ms : List Mv) (ss : List Nat) (side word : Str), vs = [mv, .ref st, .str side, .str word] ∧ Dt K H mv (machD n ms) ∧ SqT K H st (intsV ss) ∧ MvOk ms ∧
  ∀ (H' : Hp) (r : Addr) (zs : List Nat), Same H H' → H' r = some (.tup (intsV zs)) → zs.Nodup → (∀ z, z ∈ zs ↔ ∃ e ∈ ms, e.1 ∈ ss ∧ stepB e.2.1 side word = true ∧ e.2.2 = z) → Q (.ref r) H'
theorem ok_stepped {f : Addr} {fd : FuncData} (F : Fun K "stepped" "stepped" sstepped f fd) (G : Gs K mg) (Dis_step_by : Def P w K mg base 1 "is_step_by" ["leaf", "side", "word"] (spStepBy K)) : FnOk P w K mg base CX0 2 f fd ["machine", "stands", "side", "word"] (spStepped K) := by
  refine F.ok scstepped (fun vs H Q E h => ?_) (fun cdv A outer s H vs Q E hr h => ?_)
  · obtain ⟨mv, st, n, ms, ss, side, word, rfl, _⟩ := h
    rfl
  obtain ⟨mv, st, n, ms, ss, side, word, rfl, hM, hS, hok, q⟩ := h
  refine ⟨_, (pss_cons (ps_set (i := 4) scstepped.nd rfl (Or.inl rfl) pe_dnewK) (pss_cons (ps_for PassesOwn.never rfl (pi_tup (pe_ix ix_tup (pv 0) pe_int (fun _ _ => rfl))) (pg_tup rfl (pgs_cons (pg_name (i := 5) scstepped.nd rfl (Or.inl rfl)) (pgs_cons (pg_name (i := 6) scstepped.nd rfl (Or.inl rfl)) (pgs_cons (pg_name (i := 7) scstepped.nd rfl (Or.inl rfl)) pgs_nil)))) (pss_one (ps_if (PW.pt (pw_and (pt_cmpR op_in_seq (pv 5) (pv 1) (by with_unfolding_all rfl)) (pw_and1 (pt_val (pe_def Dis_step_by (hr.mono (by omega)) rfl (pa_cons (pv 6) (pa_cons (pv 2) (pa_cons (pv 3) pa_nil)))))))) (pss_one (ps_dput (hu_of hr) (pv 4) (pv 7) pe_bl rfl)) pss_nil))) (pss_one (ps_ret (pe_callTy call_tuple_of (by rfl) G.tuple boot_tuple (pa_cons (pe_callB (call_sortedDI rfl) (by rfl) G.sorted boot_sorted (pa_cons (pv 4) pa_nil)) pa_nil)))))), ?_⟩
  obtain ⟨a, ea, ma, mvs, rfl, h1, h2, h3, h4⟩ := machI hM
  -- met = {}
  intro met hmet
  have s0 : Same H (upd H met (.dK [])) := same_new hmet
  -- the loop
  refine ⟨_, rfl, a, _, 3, _, rfl, rfl, same_seqT s0 h1, at3, ma, rfl, ⟨_, same_seqT s0 h3⟩, ?_⟩
  refine for_tup (xs := mvs) (fun i σ H' => ∃ (o5 o6 o7 : Option V) (ks : List Nat), σ = [some (.ref a), some (.ref st), some (.str side), some (.str word), some (.ref met), o5, o6, o7] ∧ Same H H' ∧ H' met = some (.dK (natD ks)) ∧ ks.Nodup ∧ ks.length ≤ i ∧
      ∀ z, z ∈ ks ↔ ∃ e ∈ ms.take i, e.1 ∈ ss ∧ stepB e.2.1 side word = true ∧ e.2.2 = z)
    ⟨none, none, none, [], rfl, s0, upd_same, List.nodup_nil, Nat.le_refl _, fun z => by simp⟩ ?_ ?_ ?_
  · rintro i σ H' _ ⟨_, _, _, _, _, sm, _⟩
    exact same_seqT sm h3
  · rintro i x σ H' hi ⟨o5, o6, o7, ks, rfl, sm, hmt, hnd, hlen, hks⟩
    obtain ⟨e, he, hx⟩ := h4.mapGet hi
    obtain ⟨b, lv, rfl, h5, h6⟩ := mvI hx
    have hi' : i < ms.length := (List.getElem?_eq_some_iff.mp he).1
    have hmem : e ∈ ms := List.mem_of_getElem? he
    have htk : ms.take (i + 1) = ms.take i ++ [e] := by rw [List.take_add_one, he]; rfl
    refine ⟨b, _, rfl, same_seqT sm h5, rfl, _, _, rfl, _, _, rfl, _, _, rfl, rfl, ?_⟩
    -- one in stands
    refine ⟨_, rfl, _, rfl, st, _, rfl, .inr (same_seqT sm hS), rfl, flat_intsV ss, _, rfl, ?_⟩
    rw [if_neg Bool.false_ne_true, inV_nat]
    have skip : ¬ (e.1 ∈ ss ∧ stepB e.2.1 side word = true) → ∀ H1, Same H' H1 → ∃ (o5 o6 o7 : Option V) (ks : List Nat), [some (.ref a), some (.ref st), some (.str side), some (.str word), some (.ref met), some (V.int (e.1 : Nat)), some lv, some (V.int (e.2.2 : Nat))] = [some (.ref a), some (.ref st), some (.str side), some (.str word), some (.ref met), o5, o6, o7] ∧ Same H H1 ∧ H1 met = some (.dK (natD ks)) ∧ ks.Nodup ∧ ks.length ≤ i + 1 ∧
        ∀ z, z ∈ ks ↔ ∃ e ∈ ms.take (i + 1), e.1 ∈ ss ∧ stepB e.2.1 side word = true ∧ e.2.2 = z := fun hn H1 s1 => by
      refine ⟨_, _, _, ks, rfl, sm.trans s1, s1 _ _ hmt, hnd, by omega, fun z => ?_⟩
      rw [hks z, htk]
      constructor
      · rintro ⟨e', he', r⟩
        exact ⟨e', List.mem_append_left _ he', r⟩
      · rintro ⟨e', he', r⟩
        rcases List.mem_append.mp he' with z1 | z1
        · exact ⟨e', z1, r⟩
        · rw [List.mem_singleton.mp z1] at r
          exact absurd ⟨r.1, r.2.1⟩ hn
    refine ite_b (fun c => ?_) (fun c => ?_)
    · -- is_step_by(leaf, side, word)
      refine ⟨_, rfl, _, rfl, _, rfl, lv, e.2.1, side, word, rfl, h6.same sm, fun H1 s1 => ⟨_, rfl, ?_⟩⟩
      refine ite_b (fun c2 => ?_) (fun c2 => ?_)
      · refine ⟨_, rfl, _, rfl, met, _, rfl, DPut.k (k := Sum.inl (e.2.2 : Nat)) (s1 _ _ hmt) (by rw [natD_len]; exact line_lt (by have := hok.1; omega)), ?_⟩
        rw [natD_put]
        refine ⟨_, _, _, insS ks e.2.2, rfl, same_put (sm.trans s1) hmet, upd_same, nodup_insS hnd, by have := length_insS ks e.2.2; omega, fun z => ?_⟩
        rw [mem_insS, hks z, htk]
        constructor
        · rintro (⟨e', he', r⟩ | rfl)
          · exact ⟨e', List.mem_append_left _ he', r⟩
          · exact ⟨e, List.mem_append_right _ (List.mem_singleton.mpr rfl), of_decide_eq_true c, c2, rfl⟩
        · rintro ⟨e', he', r⟩
          rcases List.mem_append.mp he' with z1 | z1
          · exact .inl ⟨e', z1, r⟩
          · rw [List.mem_singleton.mp z1] at r
            exact .inr r.2.2.symm
      · exact skip (fun z => by rw [z.2] at c2; cases c2) H1 s1
    · refine iteF ?_
      exact skip (fun z => of_decide_eq_false c z.1) H' (Same.refl _)
  · rintro σ H' ⟨o5, o6, o7, ks, rfl, sm, hmt, hnd, hlen, hks⟩
    have hb : ∀ k ∈ ks, k < 60 := fun k hk => by
      obtain ⟨e, he, _, _, rfl⟩ := (hks k).mp hk
      exact (hok.2 e (List.mem_of_mem_take he)).2
    have hfew := nodup_few hnd hb
    refine ⟨_, rfl, met, _, ks.map fun k => ((k : Nat) : Int), rfl, Rd.of hmt, natD_keys ks, by rw [List.length_map]; omega, fun ys p hp _ hn => ?_⟩
    obtain ⟨zs, e1, hpz⟩ := nats_of_perm hp
    refine ⟨p, _, rfl, .inl ⟨SqL.of upd_same, fun r hr' => ?_⟩⟩
    rw [e1] at hr' ⊢
    refine q _ r zs ((sm.trans (same_new hn)).trans (same_new hr')) upd_same (hpz.nodup_iff.mpr hnd) fun z => ?_
    rw [hpz.mem_iff, hks z]
    have hl := h4.mapLen
    rw [hl, List.take_length]

abbrev scome_to : Stmt := top 7
abbrev Nsccome_to : List Str := ["machine", "stands", "marks", "met", "stand", "line", "here", "one", "leaf", "other"]
theorem sccome_to : FnScope Nsccome_to ["machine", "stands", "marks"] (defScope scome_to) := ⟨rfl, rfl, rfl, by decide +kernel, rfl, by decide +kernel, by decide +kernel⟩
def spComeTo (K : PySem.W.Frag) : Sp := fun vs H Q _ => ∃ (mv : V) (st m : Addr) (n : Nat) (ms : List Mv) (ss : List Nat) (mk : List Str), vs = [mv, .ref st, .ref m] ∧ Dt K H mv (machD n ms) ∧ SqT K H st (intsV ss) ∧ SqL K H m (mk.map V.str) ∧ MvOk ms ∧ (∀ s ∈ ss, s < 60) ∧ ss.length ≤ 1000 ∧
  ∀ (H' : Hp) (r : Addr) (zs : List Nat), Same H H' → H' r = some (.tup (intsV zs)) → zs.Nodup → (∀ z, z ∈ zs ↔ ∃ s ∈ ss, Star (Nul ms mk) s z) → Q (.ref r) H'
theorem ok_comeTo {f : Addr} {fd : FuncData} (F : Fun K "come_to" "come_to" scome_to f fd) (G : Gs K mg) (Dholds_at : Def P w K mg base 1 "holds_at" ["leaf", "marks"] (spHolds K)) : FnOk P w K mg base CX0 2 f fd ["machine", "stands", "marks"] (spComeTo K) := by
  refine F.ok sccome_to (fun vs H Q E h => ?_) (fun cdv A outer s H vs Q E hr h => ?_)
  · obtain ⟨mv, st, m, n, ms, ss, mk, rfl, _⟩ := h
    rfl
  obtain ⟨mv, st, m, n, ms, ss, mk, rfl, hM, hS, hK, hok, hss, hsl, q⟩ := h
  refine ⟨_, (pss_cons (ps_set (i := 3) sccome_to.nd rfl (Or.inl rfl) pe_dnewK) (pss_cons (ps_for PassesOwn.never rfl (pi_tup (pv 1)) (pg_name (i := 4) sccome_to.nd rfl (Or.inl rfl)) (pss_one (ps_dput (hu_of hr) (pv 3) (pv 4) pe_bl rfl))) (pss_cons (ps_set (i := 5) sccome_to.nd rfl (Or.inl rfl) (pe_callTy (call_list_dK rfl) (by rfl) G.list boot_list (pa_cons (pv 3) pa_nil))) (pss_cons (ps_while PassesOwn.never (pt_cmpR (op_neD hr.units) (pv 5) (pe_lst pa_nil) (nomark _)) (pss_cons (ps_set (i := 6) sccome_to.nd rfl (Or.inl rfl) (pe_bm0 PySem.F.plainAttrs_list PySem.F.slot_list_pop PySem.F.type_list_pop mt_pop (pv 5))) (pss_one (ps_for PassesOwn.never rfl (pi_tup (pe_ix ix_tup (pv 0) pe_int (fun _ _ => rfl))) (pg_tup rfl (pgs_cons (pg_name (i := 7) sccome_to.nd rfl (Or.inl rfl)) (pgs_cons (pg_name (i := 8) sccome_to.nd rfl (Or.inl rfl)) (pgs_cons (pg_name (i := 9) sccome_to.nd rfl (Or.inl rfl)) pgs_nil)))) (pss_one (ps_if (PW.pt (pw_and (pt_cmpR op_eq (pv 7) (pv 6) (nomark _)) (pw_and (pt_cmp (pc_dnotin (hu_of hr) (pv 9) (pv 3))) (pw_and1 (pt_val (pe_def Dholds_at (hr.mono (by omega)) rfl (pa_cons (pv 8) (pa_cons (pv 2) pa_nil)))))))) (pss_cons (ps_dput (hu_of hr) (pv 3) (pv 9) pe_bl rfl) (pss_one (ps_expr (pe_bm PySem.F.plainAttrs_list PySem.F.slot_list_append PySem.F.type_list_append mt_append (pv 5) (pa_cons (pv 9) pa_nil))))) pss_nil)))))) (pss_one (ps_ret (pe_callTy call_tuple_of (by rfl) G.tuple boot_tuple (pa_cons (pe_callB (call_sortedDI rfl) (by rfl) G.sorted boot_sorted (pa_cons (pv 3) pa_nil)) pa_nil)))))))), ?_⟩
  obtain ⟨a, ea, ma, mvs, rfl, h1, h2, h3, h4⟩ := machI hM
  -- met = {}
  intro met hmet
  have s0 : Same H (upd H met (.dK [])) := same_new hmet
  -- for stand in stands
  refine ⟨_, rfl, st, rfl, ⟨_, same_seqT s0 hS⟩, ?_⟩
  refine for_tup (xs := intsV ss) (fun i σ H' => ∃ (o4 : Option V) (ks : List Nat), σ = [some (.ref a), some (.ref st), some (.ref m), some (.ref met), o4, none, none, none, none, none] ∧ Same H H' ∧ H' met = some (.dK (natD ks)) ∧ ks.Nodup ∧ ks.length ≤ i ∧ ∀ z, z ∈ ks ↔ z ∈ ss.take i)
    ⟨none, [], rfl, s0, upd_same, List.nodup_nil, Nat.le_refl _, fun z => by simp⟩ ?_ ?_ ?_
  · rintro i σ H' _ ⟨_, _, _, sm, _⟩
    exact same_seqT sm hS
  · rintro i x σ H' hi ⟨o4, ks, rfl, sm, hmt, hnd, hlen, hks⟩
    obtain ⟨z, hz, rfl⟩ : ∃ z, ss[i]? = some z ∧ V.int (z : Nat) = x := by
      rw [List.getElem?_map] at hi
      cases e : ss[i]? with
      | none => rw [e] at hi; cases hi
      | some z => rw [e] at hi; exact ⟨z, rfl, Option.some.inj hi⟩
    have hi' : i < ss.length := (List.getElem?_eq_some_iff.mp hz).1
    refine ⟨_, rfl, _, rfl, met, _, rfl, DPut.k (k := Sum.inl (z : Nat)) hmt (by rw [natD_len]; exact line_lt (by omega)), ?_⟩
    rw [natD_put]
    refine ⟨_, insS ks z, rfl, same_put sm hmet, upd_same, nodup_insS hnd, by have := length_insS ks z; omega, fun y => ?_⟩
    rw [mem_insS, hks y, List.take_add_one, hz]
    simp
  · rintro σ H1 ⟨o4, ks, rfl, s1, hmt, hnd, hlen, hks⟩
    rw [show (intsV ss).length = ss.length from List.length_map _] at hks hlen
    rw [List.take_length] at hks
    -- line = list(met)
    refine ⟨_, rfl, met, _, rfl, hmt, fun line hline => ?_⟩
    have eL : (natD ks).map (fun kv => kV kv.1) = intsV ks := by
      unfold natD
      rw [List.map_map]
      rfl
    rw [eL]
    have hlm : line ≠ met := fun e => by rw [e, hmt] at hline; cases hline
    have hline0 : H line = none := s1.free hline
    have small : ∀ zs : List Nat, zs.Nodup → (∀ z ∈ zs, ∃ s ∈ ss, Star (Nul ms mk) s z) → zs.length ≤ 60 := fun zs hz h => nodup_few hz fun z hz' => by
      obtain ⟨s, hs, h⟩ := h z hz'
      have key : ∀ {i j}, Star (Nul ms mk) i j → i < 60 → j < 60 := by
        intro i j h
        induction h with
        | refl => exact id
        | head a _ ih =>
          obtain ⟨e, he, _, _, rfl⟩ := a
          exact fun _ => ih (hok.2 e he).2
      exact key h (hss s hs)
    -- while line != []
    refine ⟨fun mm σ H' => ∃ (o4 o6 o7 o8 o9 : Option V) (ks ls : List Nat), σ = [some (.ref a), some (.ref st), some (.ref m), some (.ref met), o4, some (.ref line), o6, o7, o8, o9] ∧ Same H H' ∧ H' met = some (.dK (natD ks)) ∧ H' line = some (.lst (intsV ls)) ∧ ks.Nodup ∧ mm = 2 * (60 - ks.length) + ls.length ∧ mm ≤ 2000 ∧
      (∀ z ∈ ks, ∃ s ∈ ss, Star (Nul ms mk) s z) ∧ (∀ s ∈ ss, s ∈ ks) ∧ (∀ z ∈ ls, z ∈ ks) ∧ (∀ z ∈ ks, z ∈ ls ∨ ∀ t, Nul ms mk z t → t ∈ ks),
      ⟨_, o4, none, none, none, none, ks, ks, rfl, same_put s1 hline0, by rw [upd_ne hlm.symm]; exact hmt, upd_same, hnd, rfl, by omega, fun z hz => ⟨z, (hks z).mp hz, .refl z⟩, fun s hs => (hks s).mpr hs, fun z hz => hz, fun z hz => .inl hz⟩, ?_⟩
    rintro mm σ H2 ⟨o4, o6, o7, o8, o9, ks, ls, rfl, s2, hmt2, hln2, hnd2, emm, hll, hA, hB, hD, hC⟩
    -- the test
    refine ⟨_, rfl, by show 0 ≤ sizeLine; decide, fun e0 he0 => ?_⟩
    refine ⟨_, _, .lst (SqL.of (by rw [upd_ne (fun z => by rw [← z, hln2] at he0; cases he0)]; exact hln2)) (dp_ints ls), .lst (SqL.of upd_same) .nil, shaped_ints ls, shaped_nil, _, rfl, ?_⟩
    rw [eqv_nil]
    have s3 : Same H2 (upd H2 e0 (.lst [])) := same_new he0
    generalize upd H2 e0 (.lst []) = H3 at s3
    have hmt3 := s3 _ _ hmt2
    have hln3 := s3 _ _ hln2
    have s3' : Same H H3 := s2.trans s3
    rcases List.eq_nil_or_concat ls with rfl | ⟨ls0, here, rfl⟩
    · -- the end
      refine iteF ?_
      have spec := closed_star hA hB fun z hz t ht => (hC z hz).elim (fun h => by cases h) fun h => h t ht
      have hfew := small ks hnd2 hA
      refine ⟨_, rfl, met, _, ks.map fun k => ((k : Nat) : Int), rfl, Rd.of hmt3, natD_keys ks, by rw [List.length_map]; omega, fun ys p hp _ hn => ?_⟩
      obtain ⟨zs, e1, hpz⟩ := nats_of_perm hp
      refine ⟨p, _, rfl, .inl ⟨SqL.of upd_same, fun r hr' => ?_⟩⟩
      rw [e1] at hr' ⊢
      exact q _ r zs ((s3'.trans (same_new hn)).trans (same_new hr')) upd_same (hpz.nodup_iff.mpr hnd2) fun z => by rw [hpz.mem_iff, spec z]
    · rw [List.concat_eq_append] at *
      refine ite_t (by simp) ?_
      have hhere : here ∈ ks := hD here (by simp)
      -- the turn
      refine ⟨fun σ' H' => ∃ mm', mm' < mm ∧ ∃ (o4 o6 o7 o8 o9 : Option V) (ks ls : List Nat), σ' = [some (.ref a), some (.ref st), some (.ref m), some (.ref met), o4, some (.ref line), o6, o7, o8, o9] ∧ Same H H' ∧ H' met = some (.dK (natD ks)) ∧ H' line = some (.lst (intsV ls)) ∧ ks.Nodup ∧ mm' = 2 * (60 - ks.length) + ls.length ∧ mm' ≤ 2000 ∧
        (∀ z ∈ ks, ∃ s ∈ ss, Star (Nul ms mk) s z) ∧ (∀ s ∈ ss, s ∈ ks) ∧ (∀ z ∈ ls, z ∈ ks) ∧ (∀ z ∈ ks, z ∈ ls ∨ ∀ t, Nul ms mk z t → t ∈ ks), fun _ _ h => h, ?_⟩
      -- here = line.pop()
      refine ⟨_, rfl, .inl ⟨rfl, _, SqL.of hln3⟩, line, _, V.int (here : Nat), rfl, rfl, hln3, by simp, ?_⟩
      have eDrop : (intsV (ls0 ++ [here])).dropLast = intsV ls0 := by simp
      rw [eDrop]
      have hm4 : ∀ o, (upd H3 line o) met = some (.dK (natD ks)) := fun o => by rw [upd_ne hlm.symm]; exact hmt3
      -- for one, leaf, other in machine[3]
      refine ⟨_, rfl, a, _, 3, _, rfl, rfl, same_seqT (same_put s3' hline0) h1, at3, ma, rfl, ⟨_, same_seqT (same_put s3' hline0) h3⟩, ?_⟩
      refine for_tup (xs := mvs) (fun i σ H' => ∃ (o7 o8 o9 : Option V) (ks' ls' : List Nat), σ = [some (.ref a), some (.ref st), some (.ref m), some (.ref met), o4, some (.ref line), some (.int (here : Nat)), o7, o8, o9] ∧ Same H H' ∧ H' met = some (.dK (natD ks')) ∧ H' line = some (.lst (intsV ls')) ∧ ks'.Nodup ∧ 2 * (60 - ks'.length) + ls'.length + 1 ≤ mm ∧ mm ≤ 2000 ∧
          (∀ z ∈ ks', ∃ s ∈ ss, Star (Nul ms mk) s z) ∧ (∀ z ∈ ks, z ∈ ks') ∧ (∀ z ∈ ls', z ∈ ks') ∧ (∀ z ∈ ks', z ∈ ls' ∨ z = here ∨ ∀ t, Nul ms mk z t → t ∈ ks') ∧ (∀ e ∈ ms.take i, e.1 = here → holdsB e.2.1 mk = true → e.2.2 ∈ ks'))
        ⟨o7, o8, o9, ks, ls0, rfl, same_put s3' hline0, hm4 _, upd_same, hnd2, by rw [emm]; simp; omega, hll, hA, fun z hz => hz, fun z hz => hD z (by simp [hz]), fun z hz => ?_, fun e he => by simp at he⟩ ?_ ?_ ?_
      · rcases hC z hz with h | h
        · rcases List.mem_append.mp h with h | h
          · exact .inl h
          · exact .inr (.inl (List.mem_singleton.mp h))
        · exact .inr (.inr h)
      · rintro i σ H' _ ⟨_, _, _, _, _, _, sm, _⟩
        exact same_seqT sm h3
      · rintro i x σ H' hi ⟨o7, o8, o9, ks', ls', rfl, sm, hmt', hln', hnd', hmm', hll', hA', hsub, hD', hC', hE⟩
        obtain ⟨e, he, hx⟩ := h4.mapGet hi
        obtain ⟨b, lv, rfl, h5, h6⟩ := mvI hx
        have hmem : e ∈ ms := List.mem_of_getElem? he
        have htk : ms.take (i + 1) = ms.take i ++ [e] := by rw [List.take_add_one, he]; rfl
        refine ⟨b, _, rfl, same_seqT sm h5, rfl, _, _, rfl, _, _, rfl, _, _, rfl, rfl, ?_⟩
        have skip : (e.1 = here → holdsB e.2.1 mk = true → e.2.2 ∈ ks') → ∃ (o7 o8 o9 : Option V) (ks'' ls'' : List Nat), [some (V.ref a), some (V.ref st), some (V.ref m), some (V.ref met), o4, some (V.ref line), some (V.int (here : Nat)), some (V.int (e.1 : Nat)), some lv, some (V.int (e.2.2 : Nat))] = [some (.ref a), some (.ref st), some (.ref m), some (.ref met), o4, some (.ref line), some (.int (here : Nat)), o7, o8, o9] ∧ Same H H' ∧ H' met = some (.dK (natD ks'')) ∧ H' line = some (.lst (intsV ls'')) ∧ ks''.Nodup ∧ 2 * (60 - ks''.length) + ls''.length + 1 ≤ mm ∧ mm ≤ 2000 ∧
            (∀ z ∈ ks'', ∃ s ∈ ss, Star (Nul ms mk) s z) ∧ (∀ z ∈ ks, z ∈ ks'') ∧ (∀ z ∈ ls'', z ∈ ks'') ∧ (∀ z ∈ ks'', z ∈ ls'' ∨ z = here ∨ ∀ t, Nul ms mk z t → t ∈ ks'') ∧ (∀ e ∈ ms.take (i + 1), e.1 = here → holdsB e.2.1 mk = true → e.2.2 ∈ ks'') := fun hs => by
          refine ⟨_, _, _, ks', ls', rfl, sm, hmt', hln', hnd', hmm', hll', hA', hsub, hD', hC', fun e' he' => ?_⟩
          rw [htk] at he'
          rcases List.mem_append.mp he' with z1 | z1
          · exact hE e' z1
          · rw [List.mem_singleton.mp z1]
            exact hs
        -- one == here
        refine ⟨_, rfl, _, rfl, rfl, _, rfl, ?_⟩
        rw [decI]
        refine ite_b (fun c1 => ?_) (fun c1 => ?_)
        · have c1 := of_decide_eq_true c1
          -- other not in met
          refine ⟨_, rfl, _, rfl, met, _, rfl, DGet.k (k := Sum.inl (e.2.2 : Nat)) hmt', _, rfl, ?_⟩
          rw [natD_isSome]
          refine ite_b (fun c2 => ?_) (fun c2 => ?_)
          · have c2 : e.2.2 ∉ ks' := fun z => by rw [decide_eq_true z] at c2; cases c2
            -- holds_at(leaf, marks)
            refine ⟨_, rfl, _, rfl, lv, m, e.2.1, mk, rfl, h6.same sm, sm.seq hK, _, rfl, ?_⟩
            refine ite_b (fun c3 => ?_) (fun c3 => ?_)
            · -- met[other] = True; line.append(other)
              refine ⟨_, rfl, _, rfl, met, _, rfl, DPut.k (k := Sum.inl (e.2.2 : Nat)) hmt' (by rw [natD_len]; exact line_lt (by have := small ks' hnd' hA'; omega)), ?_⟩
              rw [natD_put, insS_new c2]
              have hl5 : (upd H' met (.dK (natD (ks' ++ [e.2.2])))) line = some (.lst (intsV ls')) := by rw [upd_ne hlm]; exact hln'
              have hnew : ∀ z ∈ ks' ++ [e.2.2], ∃ s ∈ ss, Star (Nul ms mk) s z := fun z hz => by
                rcases List.mem_append.mp hz with h | h
                · exact hA' z h
                · rw [List.mem_singleton.mp h]
                  obtain ⟨s, hs, hst⟩ := hA' here (hsub here hhere)
                  exact ⟨s, hs, hst.tail ⟨e, hmem, c1, c3, rfl⟩⟩
              have hnd'' : (ks' ++ [e.2.2]).Nodup := by rw [← insS_new c2]; exact nodup_insS hnd'
              have hsm := small _ hnd'' hnew
              rw [List.length_append, List.length_singleton] at hsm
              refine ⟨_, rfl, .inl ⟨rfl, _, SqL.of hl5⟩, _, rfl, line, _, _, rfl, rfl, hl5, by rw [List.length_map]; exact line_lt (by omega), ?_⟩
              refine ⟨_, _, _, ks' ++ [e.2.2], ls' ++ [e.2.2], rfl, same_put (same_put sm hmet) hline0, by rw [upd_ne hlm.symm, upd_same], by rw [upd_same]; simp, hnd'', ?_, ?_, hnew, fun z hz => List.mem_append_left _ (hsub z hz), fun z hz => ?_, fun z hz => ?_, fun e' he' => ?_⟩
              · rw [List.length_append, List.length_append, List.length_singleton]
                omega
              · exact hll'
              · rcases List.mem_append.mp hz with h | h
                · exact List.mem_append_left _ (hD' z h)
                · exact List.mem_append_right _ h
              · rcases List.mem_append.mp hz with h | h
                · rcases hC' z h with h | h | h
                  · exact .inl (List.mem_append_left _ h)
                  · exact .inr (.inl h)
                  · exact .inr (.inr fun t ht => List.mem_append_left _ (h t ht))
                · exact .inl (List.mem_append_right _ h)
              · rw [htk] at he'
                intro k1 k2
                rcases List.mem_append.mp he' with z1 | z1
                · exact List.mem_append_left _ (hE e' z1 k1 k2)
                · rw [List.mem_singleton.mp z1]
                  exact List.mem_append_right _ (by simp)
            · exact skip fun _ z => by rw [z] at c3; cases c3
          · refine iteF (skip fun _ _ => ?_)
            exact Decidable.byContradiction fun z => by rw [decide_eq_false z] at c2; cases c2
        · exact iteF (skip fun z => absurd z (of_decide_eq_false c1))
      · rintro σ H' ⟨o7, o8, o9, ks', ls', rfl, sm, hmt', hln', hnd', hmm', hll', hA', hsub, hD', hC', hE⟩
        have hl := h4.mapLen
        rw [hl, List.take_length] at hE
        refine ⟨_, by omega, o4, _, o7, o8, o9, ks', ls', rfl, sm, hmt', hln', hnd', rfl, by omega, hA', fun s hs => hsub s (hB s hs), hD', fun z hz => ?_⟩
        rcases hC' z hz with h | h | h
        · exact .inl h
        · refine .inr fun t ht => ?_
          obtain ⟨e, he, k1, k2, rfl⟩ := ht
          exact hE e he (k1.trans h) k2
        · exact .inr h
end
end PK
set_option Elab.async false
set_option linter.all false
set_option maxRecDepth 100000
set_option autoImplicit false
/-! What is come to along a way, place by place; the web as it is read. -/
namespace PK
open PySem PySem.Spec PyProof.Rows L2

def oneAt (mks : List (List Str)) (ss : List Step) (l : Leaf) (i j : Nat) : Prop := (i = j ∧ holdsB l (mks.getD i []) = true) ∨ (j = i + 1 ∧ ∃ s, ss[i]? = some s ∧ stepB l s.1 s.2.1 = true)
theorem oneAt_stay (mks : List (List Str)) (ss : List Step) (i j : Nat) : oneAt mks ss .stay i j ↔ i = j := by
  constructor
  · rintro (h | ⟨_, s, _, h⟩)
    · exact h.1
    · cases h
  · exact fun h => .inl ⟨h, rfl⟩
abbrev Reach (ms : List Mv) (mks : List (List Str)) (ss : List Step) : Nat → Nat → Prop := At (oneAt mks ss) ms
section
variable {ms : List Mv} {mks : List (List Str)} {ss : List Step}
theorem reach_star {i y z : Nat} (h : Star (Nul ms (mks.getD i [])) y z) : Reach ms mks ss i y → Reach ms mks ss i z := by
  induction h with
  | refl => exact id
  | head a _ ih =>
    obtain ⟨⟨s, l, t⟩, he, rfl, h2, rfl⟩ := a
    exact fun q => ih (.move q he (.inl ⟨rfl, h2⟩))
theorem reach0 (z : Nat) : Reach ms mks ss 0 z ↔ ∃ s ∈ [0], Star (Nul ms (mks.getD 0 [])) s z := by
  constructor
  · intro h
    have key : ∀ i z, Reach ms mks ss i z → i = 0 → Star (Nul ms (mks.getD 0 [])) 0 z := by
      intro i z h
      induction h with
      | begin => exact fun _ => .refl 0
      | @move i j s t l _ h2 h3 ih =>
        intro hj
        rcases h3 with ⟨e, h3⟩ | ⟨e, _⟩
        · subst e
          rw [hj] at h3
          exact (ih hj).tail ⟨(s, l, t), h2, rfl, h3, rfl⟩
        · omega
    exact ⟨0, by simp, key 0 z h rfl⟩
  · rintro ⟨s, hs, h⟩
    rw [List.mem_singleton.mp hs] at h
    exact reach_star h .begin
theorem reachS {i : Nat} {s : Step} (hs : ss[i]? = some s) (z : Nat) :
    Reach ms mks ss (i + 1) z ↔ ∃ y, (∃ e ∈ ms, Reach ms mks ss i e.1 ∧ stepB e.2.1 s.1 s.2.1 = true ∧ e.2.2 = y) ∧ Star (Nul ms (mks.getD (i + 1) [])) y z := by
  constructor
  · intro h
    have key : ∀ j z, Reach ms mks ss j z → j = i + 1 → ∃ y, (∃ e ∈ ms, Reach ms mks ss i e.1 ∧ stepB e.2.1 s.1 s.2.1 = true ∧ e.2.2 = y) ∧ Star (Nul ms (mks.getD (i + 1) [])) y z := by
      intro j z h
      induction h with
      | begin => exact fun e => by omega
      | @move i' j a t l h1 h2 h3 ih =>
        intro hj
        rcases h3 with ⟨e, h3⟩ | ⟨e, s', hs', h3⟩
        · subst e
          obtain ⟨y, hy, hst⟩ := ih hj
          rw [hj] at h3
          exact ⟨y, hy, hst.tail ⟨(a, l, t), h2, rfl, h3, rfl⟩⟩
        · have e' : i' = i := by omega
          subst e'
          rw [hs] at hs'
          cases hs'
          exact ⟨t, ⟨(a, l, t), h2, h1, h3, rfl⟩, .refl t⟩
    exact key _ _ h rfl
  · rintro ⟨y, ⟨⟨a, l, t⟩, he, h1, h2, rfl⟩, hst⟩
    exact reach_star hst (.move h1 he (.inr ⟨rfl, s, hs, h2⟩))
theorem reach_lt {n i z : Nat} (h0 : 0 < n) (hb : ∀ e ∈ ms, e.2.2 < n) (h : Reach ms mks ss i z) : z < n := by
  cases h with
  | begin => exact h0
  | move _ h2 _ => exact hb _ h2
end
theorem holds_perm {ms ys : List Str} (h : ys.Perm ms) (l : Leaf) : holdsB l ys = holdsB l ms := by
  have e : ∀ m : Str, (ys.any fun y => y == m) = ms.any fun y => y == m := fun m => by
    rw [Bool.eq_iff_iff, List.any_eq_true, List.any_eq_true]
    constructor
    · rintro ⟨y, hy, q⟩
      exact ⟨y, h.mem_iff.mp hy, q⟩
    · rintro ⟨y, hy, q⟩
      exact ⟨y, h.mem_iff.mpr hy, q⟩
  cases l with
  | stay => rfl
  | step s w => rfl
  | «at» m => exact e m
  | off m => exact congrArg not (e m)
theorem nul_perm {ms : List Mv} {mk ys : List Str} (h : ys.Perm mk) : Nul ms ys = Nul ms mk := by
  funext s t
  unfold Nul
  simp only [holds_perm h]

/-! ### a web, read -/
theorem wn1 : ¬ (("web_marks" : Str) = "web_ties") := by decide +kernel
theorem wn2 : ¬ (("web_marks" : Str) = "web_steps") := by decide +kernel
theorem wn3 : ¬ (("web_ties" : Str) = "web_steps") := by decide +kernel
def webF (a1 a2 a3 : Addr) : List (Str × V) := putF "web_steps" (.ref a3) (putF "web_ties" (.ref a2) (putF "web_marks" (.ref a1) []))
theorem webF_eq (a1 a2 a3 : Addr) : webF a1 a2 a3 = ([("web_marks", V.ref a1), ("web_ties", V.ref a2), ("web_steps", V.ref a3)] : List (Str × V)) := by
  unfold webF
  show putF "web_steps" (.ref a3) (if ("web_marks" : Str) = "web_ties" then _ else (("web_marks" : Str), V.ref a1) :: [(("web_ties" : Str), V.ref a2)]) = _
  rw [if_neg wn1]
  show (if ("web_marks" : Str) = "web_steps" then _ else (("web_marks" : Str), V.ref a1) :: (if ("web_ties" : Str) = "web_steps" then _ else (("web_ties" : Str), V.ref a2) :: [(("web_steps" : Str), V.ref a3)])) = _
  rw [if_neg wn2, if_neg wn3]
theorem webF_marks (a1 a2 a3 : Addr) : (webF a1 a2 a3).lookup ("web_marks" : Str) = some (.ref a1) := by
  unfold webF
  rw [lookup_putF, if_neg wn2, lookup_putF, if_neg wn1, lookup_putF, if_pos rfl]
theorem webF_ties (a1 a2 a3 : Addr) : (webF a1 a2 a3).lookup ("web_ties" : Str) = some (.ref a2) := by
  unfold webF
  rw [lookup_putF, if_neg wn3, lookup_putF, if_pos rfl]
theorem webF_steps (a1 a2 a3 : Addr) : (webF a1 a2 a3).lookup ("web_steps" : Str) = some (.ref a3) := by
  unfold webF
  rw [lookup_putF, if_pos rfl]
theorem webF_no (a1 a2 a3 : Addr) {m : Str} (h1 : ¬ m = "web_steps") (h2 : ¬ m = "web_ties") (h3 : ¬ m = "web_marks") : (webF a1 a2 a3).lookup m = none := by
  unfold webF
  rw [lookup_putF, if_neg h1, lookup_putF, if_neg h2, lookup_putF, if_neg h3]
  rfl
/-- the class Web -/
structure WebC (K : PySem.W.Frag) (C : Addr) : Prop where
  cl : Cls K C
  n1 : NoAttr K C "web_marks"
  n2 : NoAttr K C "web_ties"
  n3 : NoAttr K C "web_steps"
/-- at p a web whose knots (some of them) with their marks are ks -/
def WebRd (C : Addr) (H : Hp) (p : Addr) (ks : List (Str × List Str)) : Prop :=
  ∃ (dx a1 a2 a3 : Addr) (kvs : List (Key × V)), H p = some (.ins C dx (webF a1 a2 a3)) ∧ H a1 = some (.dK kvs) ∧ ∀ k ∈ ks, ∃ l, valV kvs (Sum.inr k.1) = some (.ref l) ∧ H l = some (.lst (k.2.map V.str))
theorem WebRd.same {C : Addr} {H H' : Hp} {p : Addr} {ks : List (Str × List Str)} (e : Same H H') (h : WebRd C H p ks) : WebRd C H' p ks := by
  obtain ⟨dx, a1, a2, a3, kvs, h1, h2, h3⟩ := h
  exact ⟨dx, a1, a2, a3, kvs, e _ _ h1, e _ _ h2, fun k hk => let ⟨l, q1, q2⟩ := h3 k hk; ⟨l, q1, e _ _ q2⟩⟩
end PK
set_option Elab.async false
set_option linter.all false
set_option maxRecDepth 100000
set_option autoImplicit false
set_option maxHeartbeats 2000000
/-! has_end, Web.ask_knot, Web.marks, goes -/
namespace PK
open PySem PySem.Spec PyProof.Rows L2
section
variable {P : Program} {w : World} {K : PySem.W.Frag} {mg : Str → Option Value} {base : Heap}

abbrev shas_end : Stmt := top 9
abbrev Nschas_end : List Str := ["machine", "stands", "stand"]
theorem schas_end : FnScope Nschas_end ["machine", "stands"] (defScope shas_end) := ⟨rfl, rfl, rfl, by decide +kernel, rfl, by decide +kernel, by decide +kernel⟩
def spHasEnd (K : PySem.W.Frag) : Sp := fun vs H Q _ => ∃ (mv : V) (st : Addr) (n : Nat) (ms : List Mv) (ss : List Nat), vs = [mv, .ref st] ∧ Dt K H mv (machD n ms) ∧ SqT K H st (intsV ss) ∧ ss.length ≤ 1000 ∧ ∀ H', Same H H' → Q (.bl (decide (1 ∈ ss))) H'
theorem ok_hasEnd {f : Addr} {fd : FuncData} (F : Fun K "has_end" "has_end" shas_end f fd) : FnOk P w K mg base CX0 1 f fd ["machine", "stands"] (spHasEnd K) := by
  refine F.ok schas_end (fun vs H Q E h => ?_) (fun cdv A outer s H vs Q E hr h => ?_)
  · obtain ⟨mv, st, n, ms, ss, rfl, _⟩ := h
    rfl
  obtain ⟨mv, st, n, ms, ss, rfl, hM, hS, hl, q⟩ := h
  refine ⟨_, (pss_one (ps_ret (pe_cmpR (op_neD hr.units) (pe_lc (own := [("stand", 2)]) rfl schas_end.nd (pi_tup (pv 1)) (blkOk_by (N := Nschas_end) (sc := defScope shas_end) (by decide +kernel)) (fun _ _ _ _ _ => (pg_name (i := 2) schas_end.nd rfl (Or.inl rfl))) (fun _ _ _ _ _ => (pts_one (pt_cmpR (r := rIn K false) op_in_seq (pv 2) (pe_ix (r := rIxT K) ix_tup (pv 0) pe_int (fun _ _ => rfl)) (by with_unfolding_all rfl)))) (fun _ _ _ _ _ => (pv 2))) (pe_lst pa_nil) (nomark _)))), ?_⟩
  obtain ⟨a, ea, ma, mvs, rfl, h1, h2, h3, h4⟩ := machI hM
  refine ⟨_, rfl, st, rfl, ⟨_, hS⟩, fun D hD => ?_⟩
  refine lc_tup (xs := intsV ss) (fun i H' => Same H H' ∧ H' D = some (.lst (intsV ((ss.take i).filter fun s => decide (s = 1))))) ⟨same_new hD, upd_same⟩ (fun i H' _ ⟨sm, _⟩ => same_seqT sm hS) ?_ ?_
  · rintro i x H' hi ⟨sm, hDi⟩
    obtain ⟨z, hz, rfl⟩ : ∃ z, ss[i]? = some z ∧ V.int (z : Nat) = x := by
      rw [List.getElem?_map] at hi
      cases e : ss[i]? with
      | none => rw [e] at hi; cases hi
      | some z => rw [e] at hi; exact ⟨z, rfl, Option.some.inj hi⟩
    have hi' : i < ss.length := (List.getElem?_eq_some_iff.mp hz).1
    have htk : ss.take (i + 1) = ss.take i ++ [z] := by rw [List.take_add_one, hz]; rfl
    refine ⟨rfl, _, rfl, _, rfl, a, _, 2, _, rfl, rfl, same_seqT sm h1, at2, ea, _, rfl, .inr (same_seqT sm h2), rfl, rfl, _, rfl, ?_⟩
    rw [if_neg Bool.false_ne_true]
    have e1 : inV (V.int (z : Nat)) [V.int 1] = decide (z = 1) := by
      rw [show ([V.int 1] : List V) = intsV [1] from rfl, inV_nat, decide_eq_decide]
      exact List.mem_singleton
    rw [e1]
    have hlen : ((ss.take i).filter fun s => decide (s = 1)).length ≤ 1000 := Nat.le_trans (List.length_filter_le _ _) (by rw [List.length_take]; omega)
    refine ite_b (fun c => ?_) (fun c => ?_)
    · refine ⟨_, rfl, _, hDi, by rw [List.length_map]; exact line_lt (by omega), same_put sm hD, ?_⟩
      rw [upd_same, htk, List.filter_append, show ([z].filter fun s => decide (s = 1)) = [z] by simp only [List.filter_cons, c, if_true, List.filter_nil]]
      simp
    · refine ⟨sm, ?_⟩
      rw [htk, List.filter_append, show ([z].filter fun s => decide (s = 1)) = [] by simp only [List.filter_cons, c, Bool.false_eq_true, if_false, List.filter_nil], List.append_nil]
      exact hDi
  · rintro H' ⟨sm, hDn⟩
    rw [show (intsV ss).length = ss.length from List.length_map _, List.take_length] at hDn
    refine ⟨by show 0 ≤ sizeLine; decide, fun e0 he0 => ?_⟩
    have s1 : Same H' (upd H' e0 (.lst [])) := same_new he0
    refine ⟨_, _, .lst (SqL.of (s1 _ _ hDn)) (dp_ints _), .lst (SqL.of upd_same) .nil, shaped_ints _, shaped_nil, ?_⟩
    rw [eqv_nil]
    have e : (!(intsD (ss.filter fun s => decide (s = 1))).isEmpty) = decide (1 ∈ ss) := by
      rw [Bool.eq_iff_iff, decide_eq_true_eq, Bool.not_eq_true', List.isEmpty_eq_false_iff]
      constructor
      · intro h
        have h' : (ss.filter fun s => decide (s = 1)) ≠ [] := fun z => h (by rw [z]; rfl)
        obtain ⟨x, hx⟩ := List.exists_mem_of_ne_nil _ h'
        have := List.mem_filter.mp hx
        rw [← of_decide_eq_true this.2]
        exact this.1
      · intro h z
        have : (1 : Nat) ∈ ss.filter fun s => decide (s = 1) := List.mem_filter.mpr ⟨h, rfl⟩
        rw [List.map_eq_nil_iff.mp z] at this
        cases this
    rw [e]
    exact q _ (sm.trans s1)

abbrev sWeb_ask_knot : Stmt := inClass (top 19) 1
abbrev NscWeb_ask_knot : List Str := ["self", "name"]
theorem scWeb_ask_knot : FnScope NscWeb_ask_knot ["self", "name"] (defScope sWeb_ask_knot) := ⟨rfl, rfl, rfl, by decide +kernel, rfl, by decide +kernel, by decide +kernel⟩
def spAsk (C : Addr) : Sp := fun vs H Q _ => ∃ (p : Addr) (k : Str) (dx a1 a2 a3 : Addr) (kvs : List (Key × V)), vs = [.ref p, .str k] ∧ H p = some (.ins C dx (webF a1 a2 a3)) ∧ H a1 = some (.dK kvs) ∧ (valV kvs (Sum.inr k)).isSome = true ∧ Q .non H
theorem ok_ask {f C : Addr} {fd : FuncData} (F : Fun K "ask_knot" "Web.ask_knot" sWeb_ask_knot f fd) (ClWeb : WebC K C) : FnOk P w K mg base CX0 1 f fd ["self", "name"] (spAsk C) := by
  refine F.ok scWeb_ask_knot (fun vs H Q E h => ?_) (fun cdv A outer s H vs Q E hr h => ?_)
  · obtain ⟨p, k, dx, a1, a2, a3, kvs, rfl, _⟩ := h
    rfl
  obtain ⟨p, k, dx, a1, a2, a3, kvs, rfl, hp, ha, hk, q⟩ := h
  refine ⟨_, (pss_one (ps_if (pt_cmp (pc_dnotin (hu_of hr) (pv 1) (pe_fld (pv 0) rfl))) pss_never pss_nil)), ?_⟩
  refine ⟨_, rfl, _, rfl, p, C, dx, _, _, rfl, hp, ClWeb.cl, ClWeb.n1, webF_marks _ _ _, a1, _, rfl, DGet.k (k := Sum.inr k) ha, _, rfl, ?_⟩
  rw [hk]
  exact iteF q

abbrev sWeb_marks : Stmt := inClass (top 19) 13
abbrev NscWeb_marks : List Str := ["self", "knot"]
theorem scWeb_marks : FnScope NscWeb_marks ["self", "knot"] (defScope sWeb_marks) := ⟨rfl, rfl, rfl, by decide +kernel, rfl, by decide +kernel, by decide +kernel⟩
def spMarks (C : Addr) : Sp := fun vs H Q _ => ∃ (p : Addr) (ks : List (Str × List Str)) (k : Str) (ms : List Str), vs = [.ref p, .str k] ∧ WebRd C H p ks ∧ (k, ms) ∈ ks ∧ ms.length < 64 ∧
  ∀ (H' : Hp) (r : Addr) (ys : List Str), Same H H' → H' r = some (.lst (ys.map V.str)) → ys.Perm ms → Q (.ref r) H'
theorem ok_marks {f C : Addr} {fd : FuncData} (F : Fun K "marks" "Web.marks" sWeb_marks f fd) (G : Gs K mg) (ClWeb : WebC K C) (DWeb_ask_knot : MDef P w K mg base 1 C "ask_knot" ["self", "name"] (spAsk C)) : FnOk P w K mg base CX0 2 f fd ["self", "knot"] (spMarks C) := by
  refine F.ok scWeb_marks (fun vs H Q E h => ?_) (fun cdv A outer s H vs Q E hr h => ?_)
  · obtain ⟨p, ks, k, ms, rfl, _⟩ := h
    rfl
  obtain ⟨p, ks, k, ms, rfl, ⟨dx, a1, a2, a3, kvs, h1, h2, h3⟩, hk, hl, q⟩ := h
  refine ⟨_, (pss_cons (ps_expr (pe_mdef (pv 0) ClWeb.cl DWeb_ask_knot (hr.mono (by omega)) (pa_cons (pv 1) pa_nil))) (pss_one (ps_ret (pe_callB cr_sortedS (by rfl) G.sorted boot_sorted (pa_cons (pe_dget (hu_of hr) (pe_fld (pv 0) rfl) (pv 1) (fun _ _ => rfl)) pa_nil))))), ?_⟩
  obtain ⟨l, e1, e2⟩ := h3 _ hk
  refine ⟨_, rfl, p, dx, _, rfl, h1, webF_no _ _ _ (by decide +kernel) (by decide +kernel) (by decide +kernel), _, rfl, p, k, dx, a1, a2, a3, kvs, rfl, h1, h2, by rw [e1]; rfl, ?_⟩
  refine ⟨_, rfl, p, C, dx, _, _, rfl, h1, ClWeb.cl, ClWeb.n1, webF_marks _ _ _, _, rfl, a1, _, rfl, by rw [← e1]; exact DGet.k (k := Sum.inr k) h2, ?_⟩
  refine ⟨l, ms, rfl, SqL.of e2, hl, fun ys r hp _ hr' => ?_⟩
  exact q _ r ys (same_new hr') upd_same hp

abbrev sgoes : Stmt := top 10
abbrev Nscgoes : List Str := ["web", "machine", "way", "stands", "side", "word", "knot"]
theorem scgoes : FnScope Nscgoes ["web", "machine", "way"] (defScope sgoes) := ⟨rfl, rfl, rfl, by decide +kernel, rfl, by decide +kernel, by decide +kernel⟩
def spGoes (K : PySem.W.Frag) (C : Addr) : Sp := fun vs H Q _ => ∃ (p : Addr) (mv wv : V) (ks : List (Str × List Str)) (n : Nat) (ms : List Mv) (k : Str) (ss : List Step) (mk : List Str) (mks : List (List Str)), vs = [.ref p, mv, wv] ∧ WebRd C H p ks ∧ Dt K H mv (machD n ms) ∧ Dt K H wv (wayD k ss) ∧ MvOk ms ∧
  (k, mk) ∈ ks ∧ mk.length < 64 ∧ ss.length = mks.length ∧ (∀ (i : Nat) s m, ss[i]? = some s → mks[i]? = some m → (s.2.2, m) ∈ ks ∧ m.length < 64) ∧
  ∀ (H' : Hp) (b : Bool), Same H H' → (b = true ↔ Reach ms (mk :: mks) ss ss.length 1) → Q (.bl b) H'
theorem ok_goes {f C : Addr} {fd : FuncData} (F : Fun K "goes" "goes" sgoes f fd) (G : Gs K mg) (ClWeb : WebC K C) (DWeb_marks : MDef P w K mg base 2 C "marks" ["self", "knot"] (spMarks C))
    (Dcome_to : Def P w K mg base 2 "come_to" ["machine", "stands", "marks"] (spComeTo K)) (Dstepped : Def P w K mg base 2 "stepped" ["machine", "stands", "side", "word"] (spStepped K)) (Dhas_end : Def P w K mg base 1 "has_end" ["machine", "stands"] (spHasEnd K)) :
    FnOk P w K mg base CX0 3 f fd ["web", "machine", "way"] (spGoes K C) := by
  refine F.ok scgoes (fun vs H Q E h => ?_) (fun cdv A outer s H vs Q E hr h => ?_)
  · obtain ⟨p, mv, wv, ks, n, ms, k, ss, mk, mks, rfl, _⟩ := h
    rfl
  obtain ⟨p, mv, wv, ks, n, ms, k, ss, mk, mks, rfl, hW, hM, hV, hok, hk, hml, hlen, hat, q⟩ := h
  refine ⟨_, (pss_cons (ps_set (i := 3) scgoes.nd rfl (Or.inl rfl) (pe_def Dcome_to (hr.mono (by omega)) rfl (pa_cons (pv 1) (pa_cons (pe_tup (pa_cons (pe_ix ix_tup (pv 1) pe_int (fun _ _ => rfl)) pa_nil)) (pa_cons (pe_mdef (pv 0) ClWeb.cl DWeb_marks (hr.mono (by omega)) (pa_cons (pe_ix ix_tup (pv 2) pe_int (fun _ _ => rfl)) pa_nil)) pa_nil))))) (pss_cons (ps_for PassesOwn.never rfl (pi_tup (pe_ix ix_tup (pv 2) pe_int (fun _ _ => rfl))) (pg_tup rfl (pgs_cons (pg_name (i := 4) scgoes.nd rfl (Or.inl rfl)) (pgs_cons (pg_name (i := 5) scgoes.nd rfl (Or.inl rfl)) (pgs_cons (pg_name (i := 6) scgoes.nd rfl (Or.inl rfl)) pgs_nil)))) (pss_one (ps_set (i := 3) scgoes.nd rfl (Or.inl rfl) (pe_def Dcome_to (hr.mono (by omega)) rfl (pa_cons (pv 1) (pa_cons (pe_def Dstepped (hr.mono (by omega)) rfl (pa_cons (pv 1) (pa_cons (pv 3) (pa_cons (pv 4) (pa_cons (pv 5) pa_nil))))) (pa_cons (pe_mdef (pv 0) ClWeb.cl DWeb_marks (hr.mono (by omega)) (pa_cons (pv 6) pa_nil)) pa_nil))))))) (pss_one (ps_ret (pe_def Dhas_end (hr.mono (by omega)) rfl (pa_cons (pv 1) (pa_cons (pv 3) pa_nil))))))), ?_⟩
  obtain ⟨a, ea, ma, mvs, rfl, h1, h2, h3, h4⟩ := machI hM
  obtain ⟨b, c, sv, rfl, w1, w2, w3⟩ := wayI hV
  obtain ⟨dx, a1, a2, a3, kvs, hp1, _, _⟩ := id hW
  have hno : (webF a1 a2 a3).lookup ("marks" : Str) = none := webF_no _ _ _ (by decide +kernel) (by decide +kernel) (by decide +kernel)
  have hb : ∀ i z, Reach ms (mk :: mks) ss i z → z < 60 := fun i z h => reach_lt (by decide) (fun e he => (hok.2 e he).2) h
  -- stands = come_to(machine, (machine[1],), web.marks(way[0]))
  refine ⟨_, rfl, _, rfl, a, _, 1, _, rfl, rfl, h1, at1, by show 1 ≤ sizeLine; decide, fun t ht => ?_⟩
  have s1 : Same H (upd H t (.tup [.int 0])) := same_new ht
  refine ⟨_, rfl, p, dx, _, rfl, s1 _ _ hp1, hno, _, rfl, b, _, 0, _, rfl, rfl, same_seqT s1 w1, at0, ?_⟩
  refine ⟨p, ks, k, mk, rfl, hW.same s1, hk, hml, fun H1 r ys s2 hr1 hys => ?_⟩
  refine ⟨_, t, r, n, ms, [0], ys, rfl, hM.same (s1.trans s2), same_seqT s2 (SqT.of upd_same), SqL.of hr1, hok, by simp, by simp, fun H2 r2 zs s3 hr2 hnd hzs => ?_⟩
  rw [nul_perm hys] at hzs
  have hz0 : ∀ z, z ∈ zs ↔ Reach ms (mk :: mks) ss 0 z := fun z => (hzs z).trans (reach0 (ms := ms) (mks := mk :: mks) (ss := ss) z).symm
  have sm2 := (s1.trans s2).trans s3
  -- for side, word, knot in way[1]
  refine ⟨_, rfl, b, _, 1, _, rfl, rfl, same_seqT sm2 w1, at1, c, rfl, ⟨_, same_seqT sm2 w2⟩, ?_⟩
  refine for_tup (xs := sv) (fun i σ H' => ∃ (o4 o5 o6 : Option V) (r : Addr) (zs : List Nat), σ = [some (.ref p), some (.ref a), some (.ref b), some (.ref r), o4, o5, o6] ∧ Same H H' ∧ H' r = some (.tup (intsV zs)) ∧ zs.Nodup ∧ ∀ z, z ∈ zs ↔ Reach ms (mk :: mks) ss i z)
    ⟨none, none, none, r2, zs, rfl, sm2, hr2, hnd, hz0⟩ ?_ ?_ ?_
  · rintro i σ H' _ ⟨_, _, _, _, _, _, sm, _⟩
    exact same_seqT sm w2
  · rintro i x σ H' hi ⟨o4, o5, o6, r, zs, rfl, sm, hr, hnd, hz⟩
    obtain ⟨st, hst, hx⟩ := w3.mapGet hi
    obtain ⟨d, rfl, hd⟩ := stI hx
    have hi' : i < ss.length := (List.getElem?_eq_some_iff.mp hst).1
    have hmk : mks[i]? = some mks[i] := List.getElem?_eq_getElem (by omega)
    obtain ⟨hkn, hkl⟩ := hat i st _ hst hmk
    have hzb : ∀ z ∈ zs, z < 60 := fun z h => hb i z ((hz z).mp h)
    refine ⟨d, _, rfl, same_seqT sm hd, rfl, _, _, rfl, _, _, rfl, _, _, rfl, rfl, ?_⟩
    refine ⟨_, rfl, _, rfl, _, rfl, _, rfl, _, rfl, ?_⟩
    refine ⟨_, r, n, ms, zs, st.1, st.2.1, rfl, hM.same sm, SqT.of hr, hok, fun H1 r1 ys s1 hr1 hnd1 hys => ?_⟩
    refine ⟨_, rfl, p, dx, _, rfl, s1 _ _ (sm _ _ hp1), hno, _, rfl, ?_⟩
    refine ⟨p, ks, st.2.2, mks[i], rfl, hW.same (sm.trans s1), hkn, hkl, fun H2 r2 ms2 s2 hr2 hms2 => ?_⟩
    have hyb : ∀ y ∈ ys, y < 60 := fun y h => by
      obtain ⟨e, he, _, _, rfl⟩ := (hys y).mp h
      exact (hok.2 e he).2
    refine ⟨_, r1, r2, n, ms, ys, ms2, rfl, hM.same ((sm.trans s1).trans s2), SqT.of (s2 _ _ hr1), SqL.of hr2, hok, hyb, by have := nodup_few hnd1 hyb; omega, fun H3 r3 zs3 s3 hr3 hnd3 hzs3 => ?_⟩
    rw [nul_perm hms2] at hzs3
    refine ⟨_, _, _, r3, zs3, rfl, ((sm.trans s1).trans s2).trans s3, hr3, hnd3, fun z => ?_⟩
    rw [hzs3 z, reachS hst z]
    have em : (mk :: mks).getD (i + 1) [] = mks[i] := by
      rw [List.getD_cons_succ, List.getD_eq_getElem?_getD, hmk]
      rfl
    rw [em]
    constructor
    · rintro ⟨y, hy, h⟩
      obtain ⟨e, he, k1, k2, k3⟩ := (hys y).mp hy
      exact ⟨y, ⟨e, he, (hz _).mp k1, k2, k3⟩, h⟩
    · rintro ⟨y, ⟨e, he, k1, k2, k3⟩, h⟩
      exact ⟨y, (hys y).mpr ⟨e, he, (hz _).mpr k1, k2, k3⟩, h⟩
  · rintro σ H' ⟨o4, o5, o6, r, zs, rfl, sm, hr, hnd, hz⟩
    have hzb : ∀ z ∈ zs, z < 60 := fun z h => hb _ z ((hz z).mp h)
    refine ⟨_, rfl, _, rfl, _, r, n, ms, zs, rfl, hM.same sm, SqT.of hr, by have := nodup_few hnd hzb; omega, fun H1 s1 => ?_⟩
    refine q H1 _ (sm.trans s1) ?_
    rw [decide_eq_true_eq, hz 1, w3.mapLen]
end
end PK
set_option Elab.async false
set_option linter.all false
set_option maxRecDepth 100000
set_option autoImplicit false
/-! A web while it is built; rows. -/
namespace PK
open PySem PySem.Spec PyProof.Rows L2

abbrev tieK (t : Step) : List Key := [Sum.inr t.1, Sum.inr t.2.1, Sum.inr t.2.2]
theorem tieK_inj {t u : Step} (h : tieK t = tieK u) : t = u := by
  obtain ⟨a, b, c⟩ := t
  obtain ⟨a', b', c'⟩ := u
  injection h with h1 h
  injection h with h2 h
  injection h with h3 h
  have e1 : a = a' := Sum.inr.inj h1
  have e2 : b = b' := Sum.inr.inj h2
  have e3 : c = c' := Sum.inr.inj h3
  rw [e1, e2, e3]
def tieD (ts : List Step) : List (List Key × V) := ts.map fun t => (tieK t, V.bl true)
theorem tieD_val (ts : List Step) (t : Step) : valV (tieD ts) (tieK t) = if t ∈ ts then some (.bl true) else none := by
  induction ts with
  | nil => rfl
  | cons a r ih =>
    by_cases e : a = t
    · subst e
      rw [if_pos List.mem_cons_self]
      exact valV_pos rfl
    · have q : valV (tieD (a :: r)) (tieK t) = valV (tieD r) (tieK t) := valV_neg (p := (tieK a, V.bl true)) (fun z => e (tieK_inj z))
      rw [q, ih]
      by_cases h : t ∈ r
      · rw [if_pos h, if_pos (List.mem_cons_of_mem _ h)]
      · rw [if_neg h, if_neg (fun z => (List.mem_cons.mp z).elim (fun z => e z.symm) h)]
theorem tieD_isSome (ts : List Step) (t : Step) : (valV (tieD ts) (tieK t)).isSome = decide (t ∈ ts) := by
  rw [tieD_val]
  by_cases h : t ∈ ts
  · rw [if_pos h, decide_eq_true h]; rfl
  · rw [if_neg h, decide_eq_false h]; rfl
theorem tieD_put (ts : List Step) (t : Step) : putK (tieD ts) (tieK t) (.bl true) = tieD (insS ts t) := by
  by_cases h : t ∈ ts
  · rw [insS_old h]
    have hs : ((tieD ts).any fun kv => decide (kv.1 = tieK t)) = true := by rw [valV_any, tieD_isSome, decide_eq_true h]
    unfold putK
    rw [if_pos hs]
    unfold tieD
    rw [List.map_map]
    refine List.map_congr_left fun x _ => ?_
    by_cases e : tieK x = tieK t
    · simp only [Function.comp, if_pos e]
    · simp only [Function.comp, if_neg e]
  · rw [insS_new h, putK_new _ (by rw [tieD_val, if_neg h])]
    unfold tieD
    rw [List.map_append]
    rfl
theorem tie_kV (t : Step) : (tieK t).map kV = [.str t.1, .str t.2.1, .str t.2.2] := rfl

/-- behind H0 (without the web) a web stands at p, being built, with the knots ks (names apart) and the ties ts -/
def WebAt (C : Addr) (H0 H : Hp) (p : Addr) (ks : List (Str × List Str)) (ts : List Step) : Prop :=
  Same H0 H ∧ H0 p = none ∧ (ks.map (·.1)).Nodup ∧ ∃ (dx a1 a2 a3 : Addr) (kvs svs : List (Key × V)), H p = some (.ins C dx (webF a1 a2 a3)) ∧ H a1 = some (.dK kvs) ∧ H a2 = some (.dT (tieD ts)) ∧ H a3 = some (.dK svs) ∧
    H0 a1 = none ∧ H0 a2 = none ∧ H0 a3 = none ∧ a1 ≠ a3 ∧ kvs.map (·.1) = ks.map (fun k => (Sum.inr k.1 : Key)) ∧ svs.map (·.1) = ks.map (fun k => (Sum.inr k.1 : Key)) ∧
    ∀ k ∈ ks, (∃ l, valV kvs (Sum.inr k.1) = some (.ref l) ∧ H0 l = none ∧ H l = some (.lst (k.2.map V.str))) ∧ ∃ d dvs, valV svs (Sum.inr k.1) = some (.ref d) ∧ H0 d = none ∧ d ≠ a2 ∧ H d = some (.dT dvs) ∧ dvs.length ≤ 2 * ts.length
theorem WebAt.mono {C : Addr} {H0 H H1 : Hp} {p : Addr} {ks : List (Str × List Str)} {ts : List Step} (h : WebAt C H0 H p ks ts) (e : Same H H1) : WebAt C H0 H1 p ks ts := by
  obtain ⟨s0, p0, nd, dx, a1, a2, a3, kvs, svs, h1, h2, h3, h4, h5, h6, h7, h8, h9, h10, h11⟩ := h
  refine ⟨s0.trans e, p0, nd, dx, a1, a2, a3, kvs, svs, e _ _ h1, e _ _ h2, e _ _ h3, e _ _ h4, h5, h6, h7, h8, h9, h10, fun k hk => ?_⟩
  obtain ⟨⟨l, q1, q2, q3⟩, d, dvs, q4, q5, q6, q7, q8⟩ := h11 k hk
  exact ⟨⟨l, q1, q2, e _ _ q3⟩, d, dvs, q4, q5, q6, e _ _ q7, q8⟩
/-- a new object beside the web belongs to what stands behind it -/
theorem WebAt.rebase {C : Addr} {H0 H : Hp} {p q : Addr} {o : HO} {ks : List (Str × List Str)} {ts : List Step} (h : WebAt C H0 H p ks ts) (hq : H q = none) : WebAt C (upd H0 q o) (upd H q o) p ks ts := by
  have e : Same H (upd H q o) := same_new hq
  have no : ∀ {a u}, H a = some u → H0 a = none → upd H0 q o a = none := fun {a u} ha h0 => by rw [upd_ne (ne_of_none ha hq)]; exact h0
  obtain ⟨s0, p0, nd, dx, a1, a2, a3, kvs, svs, h1, h2, h3, h4, h5, h6, h7, h8, h9, h10, h11⟩ := h
  refine ⟨fun b u hb => ?_, no h1 p0, nd, dx, a1, a2, a3, kvs, svs, e _ _ h1, e _ _ h2, e _ _ h3, e _ _ h4, no h2 h5, no h3 h6, no h4 h7, h8, h9, h10, fun k hk => ?_⟩
  · by_cases hbq : b = q
    · subst hbq
      rw [upd_same] at hb ⊢
      exact hb
    · rw [upd_ne hbq] at hb ⊢
      exact s0 _ _ hb
  · obtain ⟨⟨l, q1, q2, q3⟩, d, dvs, q4, q5, q6, q7, q8⟩ := h11 k hk
    exact ⟨⟨l, q1, no q3 q2, e _ _ q3⟩, d, dvs, q4, no q7 q5, q6, e _ _ q7, q8⟩
theorem WebAt.rd {C : Addr} {H0 H : Hp} {p : Addr} {ks ks' : List (Str × List Str)} {ts : List Step} (h : WebAt C H0 H p ks ts) (hs : ∀ k ∈ ks', k ∈ ks) : WebRd C H p ks' := by
  obtain ⟨s0, p0, nd, dx, a1, a2, a3, kvs, svs, h1, h2, h3, h4, h5, h6, h7, h8, h9, h10, h11⟩ := h
  refine ⟨dx, a1, a2, a3, kvs, h1, h2, fun k hk => ?_⟩
  obtain ⟨⟨l, q1, q2, q3⟩, _⟩ := h11 k (hs k hk)
  exact ⟨l, q1, q3⟩
/-- a key that is none -/
theorem valV_none_of {kvs : List (Key × V)} {ks : List (Str × List Str)} {x : Str} (h : kvs.map (·.1) = ks.map (fun k => (Sum.inr k.1 : Key))) (hx : x ∉ ks.map (·.1)) : valV kvs (Sum.inr x) = none := by
  cases e : valV kvs (Sum.inr x) with
  | none => rfl
  | some v =>
    have := valV_in e
    rw [h] at this
    obtain ⟨k, hk, ek⟩ := List.mem_map.mp this
    exact absurd (List.mem_map.mpr ⟨k, hk, Sum.inr.inj ek⟩) hx

/-- rows at r: a dict from knots to lists of marks, a list of ties -/
def RowsAt (K : PySem.W.Frag) (H : Hp) (r : Addr) (ks : List (Str × List Str)) (ts : List Step) : Prop :=
  ∃ (d l : Addr) (kvs : List (Key × V)) (tv : List V), SqT K H r [.ref d, .ref l] ∧ H d = some (.dK kvs) ∧ kvs.map (·.1) = ks.map (fun k => (Sum.inr k.1 : Key)) ∧ (∀ k ∈ ks, ∃ m, valV kvs (Sum.inr k.1) = some (.ref m) ∧ H m = some (.lst (k.2.map V.str))) ∧
    H l = some (.lst tv) ∧ DtAll K H tv (ts.map stD)
theorem RowsAt.same {K : PySem.W.Frag} {H H' : Hp} {r : Addr} {ks : List (Str × List Str)} {ts : List Step} (h : RowsAt K H r ks ts) (e : Same H H') : RowsAt K H' r ks ts := by
  obtain ⟨d, l, kvs, tv, h1, h2, h3, h4, h5, h6⟩ := h
  exact ⟨d, l, kvs, tv, same_seqT e h1, e _ _ h2, h3, fun k hk => let ⟨m, q1, q2⟩ := h4 k hk; ⟨m, q1, e _ _ q2⟩, e _ _ h5, h6.same e⟩
/-- what is asked of rows: names apart, few; ties apart, few, between the knots; few marks -/
structure RowsOk (ks : List (Str × List Str)) (ts : List Step) : Prop where
  nd : (ks.map (·.1)).Nodup
  few : ks.length ≤ 6
  some : ks ≠ []
  marks : ∀ k ∈ ks, k.2.length < 64
  tnd : ts.Nodup
  tfew : ts.length ≤ 10
  tin : ∀ t ∈ ts, t.1 ∈ ks.map (·.1) ∧ t.2.2 ∈ ks.map (·.1)
  kok : ∀ k ∈ ks, PyData.strOk k.1 = true
  wok : ∀ t ∈ ts, PyData.strOk t.2.1 = true
end PK
set_option Elab.async false
set_option linter.all false
set_option maxRecDepth 100000
set_option autoImplicit false
set_option maxHeartbeats 2000000
/-! Web: made and filled -/
namespace PK
open PySem PySem.Spec PyProof.Rows L2
section
variable {P : Program} {w : World} {K : PySem.W.Frag} {mg : Str → Option Value} {base : Heap}

abbrev sWeb_init : Stmt := inClass (top 19) 0
abbrev NscWeb_init : List Str := ["self"]
theorem scWeb_init : FnScope NscWeb_init ["self"] (defScope sWeb_init) := ⟨rfl, rfl, rfl, by decide +kernel, rfl, by decide +kernel, by decide +kernel⟩
def spWInit (C : Addr) : Sp := fun vs H Q _ => ∃ (H0 : Hp) (p dx : Addr), vs = [.ref p] ∧ Same H0 H ∧ H0 p = none ∧ H p = some (.ins C dx []) ∧ ∀ H' : Hp, WebAt C H0 H' p [] [] → Q .non H'
theorem ok_wInit {f C : Addr} {fd : FuncData} (F : Fun K "__init__" "Web.__init__" sWeb_init f fd) (ClWeb : WebC K C) : FnOk P w K mg base CX0 1 f fd ["self"] (spWInit C) := by
  refine F.ok scWeb_init (fun vs H Q E h => ?_) (fun cdv A outer s H vs Q E hr h => ?_)
  · obtain ⟨H0, p, dx, rfl, _⟩ := h
    rfl
  obtain ⟨H0, p, dx, rfl, s0, p0, hp, q⟩ := h
  refine ⟨_, (pss_cons (ps_fld (pv 0) pe_dnewK rfl) (pss_cons (ps_fld (pv 0) pe_dnewT rfl) (pss_one (ps_fld (pv 0) pe_dnewK rfl)))), ?_⟩
  intro a1 n1
  have np1 : p ≠ a1 := ne_of_none hp n1
  refine ⟨_, rfl, p, C, dx, [], rfl, (by rw [upd_ne np1]; exact hp), ClWeb.cl, ClWeb.n1, by show 0 < 1000; decide, ?_⟩
  intro a2 n2
  have np2 : p ≠ a2 := fun e => by rw [← e, upd_same] at n2; cases n2
  have n12 : a1 ≠ a2 := fun e => by rw [← e, upd_ne np1.symm, upd_same] at n2; cases n2
  refine ⟨_, rfl, p, C, dx, _, rfl, (by rw [upd_ne np2, upd_same]), ClWeb.cl, ClWeb.n2, by show 1 < 1000; decide, ?_⟩
  intro a3 n3
  have np3 : p ≠ a3 := fun e => by rw [← e, upd_same] at n3; cases n3
  have n23 : a2 ≠ a3 := fun e => by rw [← e, upd_ne np2.symm, upd_same] at n3; cases n3
  have n13 : a1 ≠ a3 := fun e => by rw [← e, upd_ne np1.symm, upd_ne n12, upd_ne np1.symm, upd_same] at n3; cases n3
  refine ⟨_, rfl, p, C, dx, _, rfl, (by rw [upd_ne np3, upd_same]), ClWeb.cl, ClWeb.n3, by show 2 < 1000; decide, ?_⟩
  have free : ∀ {a}, H a = none → H0 a = none := fun h => s0.free h
  have f2 : H a2 = none := by rw [upd_ne np2.symm, upd_ne n12.symm] at n2; exact n2
  have f3 : H a3 = none := by rw [upd_ne np3.symm, upd_ne n23.symm, upd_ne np3.symm, upd_ne n13.symm] at n3; exact n3
  refine q _ ⟨fun b o e => ?_, p0, by simp, dx, a1, a2, a3, [], [], upd_same, ?_, ?_, ?_, free n1, free f2, free f3, n13, rfl, rfl, fun k hk => by cases hk⟩
  · have e' := s0 _ _ e
    have nb : b ≠ p := fun z => by rw [z, p0] at e; cases e
    rw [upd_ne nb, upd_ne (ne_of_none e' f3), upd_ne nb, upd_ne (ne_of_none e' f2), upd_ne nb, upd_ne (ne_of_none e' n1)]
    exact e'
  · rw [upd_ne np1.symm, upd_ne n13, upd_ne np1.symm, upd_ne n12, upd_ne np1.symm, upd_same]
  · rw [upd_ne np2.symm, upd_ne n23, upd_ne np2.symm, upd_same]
    rfl
  · rw [upd_ne np3.symm, upd_same]

abbrev sWeb_lay_knot : Stmt := inClass (top 19) 2
abbrev NscWeb_lay_knot : List Str := ["self", "name", "marks"]
theorem scWeb_lay_knot : FnScope NscWeb_lay_knot ["self", "name", "marks"] (defScope sWeb_lay_knot) := ⟨rfl, rfl, rfl, by decide +kernel, rfl, by decide +kernel, by decide +kernel⟩
def spLayKnot (K : PySem.W.Frag) (C : Addr) : Sp := fun vs H Q _ => ∃ (H0 : Hp) (p m : Addr) (x : Str) (ms : List Str) (ks : List (Str × List Str)) (ts : List Step), vs = [.ref p, .str x, .ref m] ∧ WebAt C H0 H p ks ts ∧ x ∉ ks.map (·.1) ∧ ks.length ≤ 1000 ∧ SqL K H m (ms.map V.str) ∧
  ∀ H' : Hp, WebAt C H0 H' p (ks ++ [(x, ms)]) ts → Q .non H'
theorem ok_layKnot {f C : Addr} {fd : FuncData} (F : Fun K "lay_knot" "Web.lay_knot" sWeb_lay_knot f fd) (G : Gs K mg) (ClWeb : WebC K C) : FnOk P w K mg base CX0 1 f fd ["self", "name", "marks"] (spLayKnot K C) := by
  refine F.ok scWeb_lay_knot (fun vs H Q E h => ?_) (fun cdv A outer s H vs Q E hr h => ?_)
  · obtain ⟨H0, p, m, x, ms, ks, ts, rfl, _⟩ := h
    rfl
  obtain ⟨H0, p, m, x, ms, ks, ts, rfl, ⟨s0, p0, nd, dx, a1, a2, a3, kvs, svs, h1, h2, h3, h4, h5, h6, h7, h8, h9, h10, h11⟩, hx, hl, hm, q⟩ := h
  refine ⟨_, (pss_cons (ps_dput (hu_of hr) (pe_fld (pv 0) rfl) (pv 1) (pe_callTy call_list_of (by rfl) G.list boot_list (pa_cons (pv 2) pa_nil)) rfl) (pss_one (ps_dput (hu_of hr) (pe_fld (pv 0) rfl) (pv 1) pe_dnewT rfl))), ?_⟩
  have hkl : kvs.length = ks.length := by have := congrArg List.length h9; simpa using this
  have hsl : svs.length = ks.length := by have := congrArg List.length h10; simpa using this
  -- list(marks)
  refine ⟨_, rfl, m, _, rfl, .inl hm, fun l nl => ?_⟩
  have e1 : Same H (upd H l (.lst (ms.map V.str))) := same_new nl
  have n1l : a1 ≠ l := ne_of_none h2 nl
  refine ⟨_, rfl, p, C, dx, _, _, rfl, e1 _ _ h1, ClWeb.cl, ClWeb.n1, webF_marks _ _ _, _, rfl, a1, _, rfl, DPut.k (k := Sum.inr x) (e1 _ _ h2) (by rw [hkl]; exact line_lt (by omega)), ?_⟩
  rw [putK_new _ (valV_none_of h9 hx)]
  have npa : p ≠ a1 := ne_of h1 h2 (by intro z; cases z)
  have n21 : a2 ≠ a1 := ne_of h3 h2 (by intro z; cases z)
  -- {}
  intro d nd2
  have hp2 : ∀ o, (upd (upd H l (.lst (ms.map V.str))) a1 o) p = some (.ins C dx (webF a1 a2 a3)) := fun o => by rw [upd_ne npa]; exact e1 _ _ h1
  have ndp : d ≠ p := fun z => by rw [z, hp2] at nd2; cases nd2
  have nda1 : d ≠ a1 := fun z => by rw [z, upd_same] at nd2; cases nd2
  have ndl : d ≠ l := fun z => by rw [z, upd_ne n1l.symm, upd_same] at nd2; cases nd2
  have fd0 : H d = none := by rw [upd_ne nda1, upd_ne ndl] at nd2; exact nd2
  have na3d : a3 ≠ d := ne_of_none h4 fd0
  have na2d : a2 ≠ d := ne_of_none h3 fd0
  have na3l : a3 ≠ l := ne_of_none h4 nl
  have na2l : a2 ≠ l := ne_of_none h3 nl
  have npl : p ≠ l := ne_of_none h1 nl
  have n3p : p ≠ a3 := ne_of h1 h4 (by intro z; cases z)
  have n23 : a2 ≠ a3 := ne_of h3 h4 (by intro z; cases z)
  refine ⟨_, rfl, p, C, dx, _, _, rfl, (by rw [upd_ne ndp.symm, hp2]), ClWeb.cl, ClWeb.n3, webF_steps _ _ _, _, rfl, a3, _, rfl, DPut.k (k := Sum.inr x) (kvs := svs) (by rw [upd_ne na3d, upd_ne h8.symm, upd_ne na3l]; exact h4) (by rw [hsl]; exact line_lt (by omega)), ?_⟩
  rw [putK_new _ (valV_none_of h10 hx)]
  have old : ∀ b o, H b = some o → b ≠ a1 → b ≠ a3 → (upd (upd (upd (upd H l (.lst (ms.map V.str))) a1 (.dK (kvs ++ [(Sum.inr x, .ref l)]))) d (.dT [])) a3 (.dK (svs ++ [(Sum.inr x, .ref d)]))) b = some o := fun b o e hb1 hb3 => by
    rw [upd_ne hb3, upd_ne (ne_of_none e fd0), upd_ne hb1, upd_ne (ne_of_none e nl)]
    exact e
  refine q _ ⟨fun b o e => ?_, p0, ?_, dx, a1, a2, a3, kvs ++ [(Sum.inr x, .ref l)], svs ++ [(Sum.inr x, .ref d)], old _ _ h1 npa n3p, ?_, old _ _ h3 n21 n23, upd_same, h5, h6, h7, h8, ?_, ?_, fun k hk => ?_⟩
  · have e' := s0 _ _ e
    exact old _ _ e' (fun z => by rw [z, h5] at e; cases e) (fun z => by rw [z, h7] at e; cases e)
  · rw [List.map_append]
    exact nd_snoc nd hx
  · rw [upd_ne h8, upd_ne nda1.symm, upd_same]
  · rw [List.map_append, List.map_append, h9]
    rfl
  · rw [List.map_append, List.map_append, h10]
    rfl
  · rcases List.mem_append.mp hk with hk | hk
    · obtain ⟨⟨l', q1, q2, q3⟩, d', dvs, q4, q5, q6, q7, q8⟩ := h11 k hk
      have look : ∀ {vs : List (Key × V)} {v : V} {y : V}, valV vs (Sum.inr k.1) = some v → vs.map (·.1) = ks.map (fun k => (Sum.inr k.1 : Key)) → valV (vs ++ [(Sum.inr x, y)]) (Sum.inr k.1) = some v := fun {vs v y} hv hk2 => by
        rw [← putK_new y (valV_none_of hk2 hx), valV_put, if_neg (fun z => hx (List.mem_map.mpr ⟨k, hk, Sum.inr.inj z⟩)), hv]
      refine ⟨⟨l', look q1 h9, q2, old _ _ q3 (ne_of q3 h2 (by intro z; cases z)) (ne_of q3 h4 (by intro z; cases z))⟩, d', dvs, look q4 h10, q5, q6, old _ _ q7 (ne_of q7 h2 (by intro z; cases z)) (ne_of q7 h4 (by intro z; cases z)), q8⟩
    · rw [List.mem_singleton.mp hk]
      have look : ∀ {vs : List (Key × V)} {y : V}, vs.map (·.1) = ks.map (fun k => (Sum.inr k.1 : Key)) → valV (vs ++ [(Sum.inr x, y)]) (Sum.inr x) = some y := fun {vs y} hk2 => by
        rw [← putK_new y (valV_none_of hk2 hx), valV_put, if_pos rfl]
      refine ⟨⟨l, look h9, s0.free nl, ?_⟩, d, [], look h10, s0.free fd0, na2d.symm, ?_, Nat.zero_le _⟩
      · rw [upd_ne na3l.symm, upd_ne ndl.symm, upd_ne n1l.symm, upd_same]
      · rw [upd_ne na3d.symm, upd_same]

abbrev sWeb_put_knot : Stmt := inClass (top 19) 5
abbrev NscWeb_put_knot : List Str := ["self", "name", "marks"]
theorem scWeb_put_knot : FnScope NscWeb_put_knot ["self", "name", "marks"] (defScope sWeb_put_knot) := ⟨rfl, rfl, rfl, by decide +kernel, rfl, by decide +kernel, by decide +kernel⟩
def spPutKnot (K : PySem.W.Frag) (C : Addr) : Sp := fun vs H Q _ => ∃ (H0 : Hp) (p m : Addr) (x : Str) (ms : List Str) (ks : List (Str × List Str)) (ts : List Step), vs = [.ref p, .str x, .ref m] ∧ WebAt C H0 H p ks ts ∧ x ∉ ks.map (·.1) ∧ ks.length < 40 ∧ SqL K H m (ms.map V.str) ∧
  ∀ H' : Hp, WebAt C H0 H' p (ks ++ [(x, ms)]) ts → Q .non H'
theorem ok_putKnot {f C : Addr} {fd : FuncData} (F : Fun K "put_knot" "Web.put_knot" sWeb_put_knot f fd) (G : Gs K mg) (ClWeb : WebC K C) (DWeb_lay_knot : MDef P w K mg base 1 C "lay_knot" ["self", "name", "marks"] (spLayKnot K C)) :
    FnOk P w K mg base CX0 2 f fd ["self", "name", "marks"] (spPutKnot K C) := by
  refine F.ok scWeb_put_knot (fun vs H Q E h => ?_) (fun cdv A outer s H vs Q E hr h => ?_)
  · obtain ⟨H0, p, m, x, ms, ks, ts, rfl, _⟩ := h
    rfl
  obtain ⟨H0, p, m, x, ms, ks, ts, rfl, hW, hx, hl, hm, q⟩ := h
  obtain ⟨tk, m_MOST_KNOTS⟩ := G.knots
  have r_MOST_KNOTS : RelV (.int 40) (.int 40 tk) := ⟨tk, rfl⟩
  refine ⟨_, (pss_cons (ps_if (pt_cmp (pc_din (hu_of hr) (pv 1) (pe_fld (pv 0) rfl))) pss_never pss_nil) (pss_cons (ps_if (pt_cmpR op_ge (pe_callB call_lenD (by rfl) G.len PySem.boot_len (pa_cons (pe_fld (pv 0) rfl) pa_nil)) (pe_glob rfl m_MOST_KNOTS r_MOST_KNOTS) (nomark _)) pss_never pss_nil) (pss_one (ps_expr (pe_mdef (pv 0) ClWeb.cl DWeb_lay_knot (hr.mono (by omega)) (pa_cons (pv 1) (pa_cons (pv 2) pa_nil))))))), ?_⟩
  obtain ⟨s0, p0, nd, dx, a1, a2, a3, kvs, svs, h1, h2, h3, h4, h5, h6, h7, h8, h9, h10, h11⟩ := id hW
  have hkl : kvs.length = ks.length := by have := congrArg List.length h9; simpa using this
  refine ⟨_, rfl, _, rfl, p, C, dx, _, _, rfl, h1, ClWeb.cl, ClWeb.n1, webF_marks _ _ _, a1, _, rfl, DGet.k (k := Sum.inr x) h2, _, rfl, ?_⟩
  rw [valV_none_of h9 hx]
  refine iteF ?_
  refine ⟨_, rfl, p, C, dx, _, _, rfl, h1, ClWeb.cl, ClWeb.n1, webF_marks _ _ _, a1, _, rfl, h2, _, _, rfl, rfl, _, rfl, ite_f (decide_eq_false (by rw [hkl]; omega)) ?_⟩
  refine ⟨_, rfl, p, dx, _, rfl, h1, webF_no _ _ _ (by decide +kernel) (by decide +kernel) (by decide +kernel), _, rfl, _, rfl, ?_⟩
  exact ⟨H0, p, m, x, ms, ks, ts, rfl, hW, hx, by omega, hm, q⟩

abbrev sWeb_has_tie : Stmt := inClass (top 19) 14
abbrev NscWeb_has_tie : List Str := ["self", "one", "word", "other"]
theorem scWeb_has_tie : FnScope NscWeb_has_tie ["self", "one", "word", "other"] (defScope sWeb_has_tie) := ⟨rfl, rfl, rfl, by decide +kernel, rfl, by decide +kernel, by decide +kernel⟩
def spHasTie (C : Addr) : Sp := fun vs H Q _ => ∃ (H0 : Hp) (p : Addr) (t : Step) (ks : List (Str × List Str)) (ts : List Step), vs = [.ref p, .str t.1, .str t.2.1, .str t.2.2] ∧ WebAt C H0 H p ks ts ∧ ∀ H', Same H H' → Q (.bl (decide (t ∈ ts))) H'
theorem ok_hasTie {f C : Addr} {fd : FuncData} (F : Fun K "has_tie" "Web.has_tie" sWeb_has_tie f fd) (ClWeb : WebC K C) : FnOk P w K mg base CX0 1 f fd ["self", "one", "word", "other"] (spHasTie C) := by
  refine F.ok scWeb_has_tie (fun vs H Q E h => ?_) (fun cdv A outer s H vs Q E hr h => ?_)
  · obtain ⟨H0, p, t, ks, ts, rfl, _⟩ := h
    rfl
  obtain ⟨H0, p, t, ks, ts, rfl, ⟨s0, p0, nd, dx, a1, a2, a3, kvs, svs, h1, h2, h3, _⟩, q⟩ := h
  refine ⟨_, (pss_one (ps_ret (pe_cmp (pc_din (hu_of hr) (pe_tup (pa_cons (pv 1) (pa_cons (pv 2) (pa_cons (pv 3) pa_nil)))) (pe_fld (pv 0) rfl))))), ?_⟩
  refine ⟨_, rfl, _, rfl, _, rfl, by show 3 ≤ sizeLine; decide, fun b hb => ?_⟩
  have e := same_new (o := HO.tup [.str t.1, .str t.2.1, .str t.2.2]) hb
  refine ⟨_, rfl, p, C, dx, _, _, rfl, e _ _ h1, ClWeb.cl, ClWeb.n2, webF_ties _ _ _, a2, _, rfl, DGet.t (k := tieK t) (e _ _ h3) upd_same, ?_⟩
  rw [tieD_isSome]
  exact q _ e

abbrev sWeb_lay_tie : Stmt := inClass (top 19) 3
abbrev NscWeb_lay_tie : List Str := ["self", "tie", "one", "word", "other"]
theorem scWeb_lay_tie : FnScope NscWeb_lay_tie ["self", "tie"] (defScope sWeb_lay_tie) := ⟨rfl, rfl, rfl, by decide +kernel, rfl, by decide +kernel, by decide +kernel⟩
def spLayTie (C : Addr) : Sp := fun vs H Q _ => ∃ (H0 : Hp) (p b : Addr) (t : Step) (ks : List (Str × List Str)) (ts : List Step), vs = [.ref p, .ref b] ∧ WebAt C H0 H p ks ts ∧ H b = some (.tup [.str t.1, .str t.2.1, .str t.2.2]) ∧ t ∉ ts ∧ ts.length ≤ 1000 ∧ t.1 ∈ ks.map (·.1) ∧ t.2.2 ∈ ks.map (·.1) ∧
  ∀ H' : Hp, WebAt C H0 H' p ks (ts ++ [t]) → Q .non H'
/-- a store into a knot's steps -/
theorem WebAt.stepPut {C : Addr} {H0 H : Hp} {p a1 a2 a3 dx : Addr} {kvs svs : List (Key × V)} {ks : List (Str × List Str)} {ts : List Step} {n : Nat} {d : Addr} {dvs : List (List Key × V)} {y : List Key} {v : V}
    (h : H p = some (.ins C dx (webF a1 a2 a3)) ∧ H a1 = some (.dK kvs) ∧ H a2 = some (.dT (tieD ts)) ∧ H a3 = some (.dK svs) ∧ Same H0 H ∧
      ∀ k ∈ ks, (∃ l, valV kvs (Sum.inr k.1) = some (.ref l) ∧ H0 l = none ∧ H l = some (.lst (k.2.map V.str))) ∧ ∃ d dvs, valV svs (Sum.inr k.1) = some (.ref d) ∧ H0 d = none ∧ d ≠ a2 ∧ H d = some (.dT dvs) ∧ dvs.length ≤ n)
    (hd : H d = some (.dT dvs)) (hd0 : H0 d = none) (hd2 : d ≠ a2) (hn : dvs.length ≤ n) :
    upd H d (.dT (putK dvs y v)) p = some (.ins C dx (webF a1 a2 a3)) ∧ upd H d (.dT (putK dvs y v)) a1 = some (.dK kvs) ∧ upd H d (.dT (putK dvs y v)) a2 = some (.dT (tieD ts)) ∧ upd H d (.dT (putK dvs y v)) a3 = some (.dK svs) ∧ Same H0 (upd H d (.dT (putK dvs y v))) ∧
      ∀ k ∈ ks, (∃ l, valV kvs (Sum.inr k.1) = some (.ref l) ∧ H0 l = none ∧ upd H d (.dT (putK dvs y v)) l = some (.lst (k.2.map V.str))) ∧ ∃ d' dvs', valV svs (Sum.inr k.1) = some (.ref d') ∧ H0 d' = none ∧ d' ≠ a2 ∧ upd H d (.dT (putK dvs y v)) d' = some (.dT dvs') ∧ dvs'.length ≤ n + 1 := by
  obtain ⟨h1, h2, h3, h4, h5, h6⟩ := h
  refine ⟨?_, ?_, ?_, ?_, same_put h5 hd0, fun k hk => ?_⟩
  · rw [upd_ne (ne_of h1 hd (by intro z; cases z))]; exact h1
  · rw [upd_ne (ne_of h2 hd (by intro z; cases z))]; exact h2
  · rw [upd_ne hd2.symm]; exact h3
  · rw [upd_ne (ne_of h4 hd (by intro z; cases z))]; exact h4
  · obtain ⟨⟨l, q1, q2, q3⟩, d', dvs', q4, q5, q6, q7, q8⟩ := h6 k hk
    refine ⟨⟨l, q1, q2, by rw [upd_ne (ne_of q3 hd (by intro z; cases z))]; exact q3⟩, d', ?_⟩
    by_cases e : d' = d
    · subst e
      exact ⟨_, q4, q5, q6, upd_same, by have := length_putK dvs y v; omega⟩
    · exact ⟨dvs', q4, q5, q6, by rw [upd_ne e]; exact q7, by omega⟩
theorem ok_layTie {f C : Addr} {fd : FuncData} (F : Fun K "lay_tie" "Web.lay_tie" sWeb_lay_tie f fd) (ClWeb : WebC K C) : FnOk P w K mg base CX0 1 f fd ["self", "tie"] (spLayTie C) := by
  refine F.ok scWeb_lay_tie (fun vs H Q E h => ?_) (fun cdv A outer s H vs Q E hr h => ?_)
  · obtain ⟨H0, p, b, t, ks, ts, rfl, _⟩ := h
    rfl
  obtain ⟨H0, p, b, t, ks, ts, rfl, ⟨s0, p0, nd, dx, a1, a2, a3, kvs, svs, h1, h2, h3, h4, h5, h6, h7, h8, h9, h10, h11⟩, hb, ht, hl, ht1, ht2, q⟩ := h
  refine ⟨_, (pss_cons (ps_asg (pv 1) (pg_tup rfl (pgs_cons (pg_name (i := 2) scWeb_lay_tie.nd rfl (Or.inl rfl)) (pgs_cons (pg_name (i := 3) scWeb_lay_tie.nd rfl (Or.inl rfl)) (pgs_cons (pg_name (i := 4) scWeb_lay_tie.nd rfl (Or.inl rfl)) pgs_nil))))) (pss_cons (ps_dput (hu_of hr) (pe_fld (pv 0) rfl) (pv 1) pe_bl rfl) (pss_cons (ps_dput (hu_of hr) (pe_dget (hu_of hr) (pe_fld (pv 0) rfl) (pv 2) (fun _ _ => rfl)) (pe_tup (pa_cons pe_str (pa_cons (pv 3) (pa_cons (pv 4) pa_nil)))) pe_bl rfl) (pss_one (ps_dput (hu_of hr) (pe_dget (hu_of hr) (pe_fld (pv 0) rfl) (pv 4) (fun _ _ => rfl)) (pe_tup (pa_cons pe_str (pa_cons (pv 3) (pa_cons (pv 2) pa_nil)))) pe_bl rfl))))), ?_⟩
  refine ⟨_, rfl, b, _, rfl, SqT.of hb, rfl, _, _, rfl, _, _, rfl, _, _, rfl, rfl, ?_⟩
  -- self.web_ties[tie] = True
  refine ⟨_, rfl, p, C, dx, _, _, rfl, h1, ClWeb.cl, ClWeb.n2, webF_ties _ _ _, _, rfl, a2, _, rfl, DPut.t (k := tieK t) h3 hb (by unfold tieD; rw [List.length_map]; exact line_lt (by omega)), ?_⟩
  rw [tieD_put, insS_new ht]
  have n12 : a1 ≠ a2 := ne_of h2 h3 (by intro z; cases z)
  have n32 : a3 ≠ a2 := ne_of h4 h3 (by intro z; cases z)
  have npa2 : p ≠ a2 := ne_of h1 h3 (by intro z; cases z)
  have st1 : upd H a2 (.dT (tieD (ts ++ [t]))) p = some (.ins C dx (webF a1 a2 a3)) ∧ upd H a2 (.dT (tieD (ts ++ [t]))) a1 = some (.dK kvs) ∧ upd H a2 (.dT (tieD (ts ++ [t]))) a2 = some (.dT (tieD (ts ++ [t]))) ∧ upd H a2 (.dT (tieD (ts ++ [t]))) a3 = some (.dK svs) ∧ Same H0 (upd H a2 (.dT (tieD (ts ++ [t])))) ∧
      ∀ k ∈ ks, (∃ l, valV kvs (Sum.inr k.1) = some (.ref l) ∧ H0 l = none ∧ upd H a2 (.dT (tieD (ts ++ [t]))) l = some (.lst (k.2.map V.str))) ∧ ∃ d dvs, valV svs (Sum.inr k.1) = some (.ref d) ∧ H0 d = none ∧ d ≠ a2 ∧ upd H a2 (.dT (tieD (ts ++ [t]))) d = some (.dT dvs) ∧ dvs.length ≤ 2 * ts.length := by
    refine ⟨by rw [upd_ne npa2]; exact h1, by rw [upd_ne n12]; exact h2, upd_same, by rw [upd_ne n32]; exact h4, same_put s0 h6, fun k hk => ?_⟩
    obtain ⟨⟨l, q1, q2, q3⟩, d, dvs, q4, q5, q6, q7, q8⟩ := h11 k hk
    exact ⟨⟨l, q1, q2, by rw [upd_ne (ne_of q3 h3 (by intro z; cases z))]; exact q3⟩, d, dvs, q4, q5, q6, by rw [upd_ne q6]; exact q7, q8⟩
  generalize upd H a2 (.dT (tieD (ts ++ [t]))) = H1 at st1 ⊢
  -- self.web_steps[one][("on", word, other)] = True
  obtain ⟨k1, hk1, e1⟩ := List.mem_map.mp ht1
  obtain ⟨_, d1, dv1, g1, g2, g3, g4, g5⟩ := st1.2.2.2.2.2 k1 hk1
  rw [e1] at g1
  refine ⟨_, rfl, p, C, dx, _, _, rfl, st1.1, ClWeb.cl, ClWeb.n3, webF_steps _ _ _, _, rfl, a3, _, rfl, by rw [← g1]; exact DGet.k (k := Sum.inr t.1) st1.2.2.2.1, ?_⟩
  refine ⟨_, rfl, _, rfl, by show 3 ≤ sizeLine; decide, fun c1 nc1 => ?_⟩
  have ec1 : Same H1 (upd H1 c1 (.tup [.str "on", .str t.2.1, .str t.2.2])) := same_new nc1
  have fix : ∀ {H2 H3 : Hp} {m : Nat}, Same H2 H3 → (H2 p = some (.ins C dx (webF a1 a2 a3)) ∧ H2 a1 = some (.dK kvs) ∧ H2 a2 = some (.dT (tieD (ts ++ [t]))) ∧ H2 a3 = some (.dK svs) ∧ Same H0 H2 ∧
      ∀ k ∈ ks, (∃ l, valV kvs (Sum.inr k.1) = some (.ref l) ∧ H0 l = none ∧ H2 l = some (.lst (k.2.map V.str))) ∧ ∃ d dvs, valV svs (Sum.inr k.1) = some (.ref d) ∧ H0 d = none ∧ d ≠ a2 ∧ H2 d = some (.dT dvs) ∧ dvs.length ≤ m) → (H3 p = some (.ins C dx (webF a1 a2 a3)) ∧ H3 a1 = some (.dK kvs) ∧ H3 a2 = some (.dT (tieD (ts ++ [t]))) ∧ H3 a3 = some (.dK svs) ∧ Same H0 H3 ∧
      ∀ k ∈ ks, (∃ l, valV kvs (Sum.inr k.1) = some (.ref l) ∧ H0 l = none ∧ H3 l = some (.lst (k.2.map V.str))) ∧ ∃ d dvs, valV svs (Sum.inr k.1) = some (.ref d) ∧ H0 d = none ∧ d ≠ a2 ∧ H3 d = some (.dT dvs) ∧ dvs.length ≤ m) := fun {H2 H3 m} e h => by
    obtain ⟨i1, i2, i3, i4, i5, i6⟩ := h
    refine ⟨e _ _ i1, e _ _ i2, e _ _ i3, e _ _ i4, i5.trans e, fun k hk => ?_⟩
    obtain ⟨⟨l, q1, q2, q3⟩, d, dvs, q4, q5, q6, q7, q8⟩ := i6 k hk
    exact ⟨⟨l, q1, q2, e _ _ q3⟩, d, dvs, q4, q5, q6, e _ _ q7, q8⟩
  refine ⟨d1, _, rfl, DPut.t (k := [Sum.inr "on", Sum.inr t.2.1, Sum.inr t.2.2]) (ec1 _ _ g4) upd_same (line_lt (by omega)), ?_⟩
  have st2 := WebAt.stepPut (y := [Sum.inr "on", Sum.inr t.2.1, Sum.inr t.2.2]) (v := .bl true) (fix ec1 st1) (ec1 _ _ g4) g2 g3 g5
  generalize upd (upd H1 c1 (.tup [.str "on", .str t.2.1, .str t.2.2])) d1 (.dT (putK dv1 [Sum.inr "on", Sum.inr t.2.1, Sum.inr t.2.2] (.bl true))) = H2 at st2 ⊢
  -- self.web_steps[other][("back", word, one)] = True
  obtain ⟨k2, hk2, e2⟩ := List.mem_map.mp ht2
  obtain ⟨_, d2, dv2, u1, u2, u3, u4, u5⟩ := st2.2.2.2.2.2 k2 hk2
  rw [e2] at u1
  refine ⟨_, rfl, p, C, dx, _, _, rfl, st2.1, ClWeb.cl, ClWeb.n3, webF_steps _ _ _, _, rfl, a3, _, rfl, by rw [← u1]; exact DGet.k (k := Sum.inr t.2.2) st2.2.2.2.1, ?_⟩
  refine ⟨_, rfl, _, rfl, by show 3 ≤ sizeLine; decide, fun c2 nc2 => ?_⟩
  have ec2 : Same H2 (upd H2 c2 (.tup [.str "back", .str t.2.1, .str t.1])) := same_new nc2
  refine ⟨d2, _, rfl, DPut.t (k := [Sum.inr "back", Sum.inr t.2.1, Sum.inr t.1]) (ec2 _ _ u4) upd_same (line_lt (by omega)), ?_⟩
  have st3 := WebAt.stepPut (y := [Sum.inr "back", Sum.inr t.2.1, Sum.inr t.1]) (v := .bl true) (fix ec2 st2) (ec2 _ _ u4) u2 u3 u5
  obtain ⟨i1, i2, i3, i4, i5, i6⟩ := st3
  refine q _ ⟨i5, p0, nd, dx, a1, a2, a3, kvs, svs, i1, i2, i3, i4, h5, h6, h7, h8, h9, h10, fun k hk => ?_⟩
  obtain ⟨g, d, dvs, q4, q5, q6, q7, q8⟩ := i6 k hk
  exact ⟨g, d, dvs, q4, q5, q6, q7, by rw [List.length_append, List.length_singleton]; omega⟩

abbrev sWeb_put_tie : Stmt := inClass (top 19) 8
abbrev NscWeb_put_tie : List Str := ["self", "one", "word", "other"]
theorem scWeb_put_tie : FnScope NscWeb_put_tie ["self", "one", "word", "other"] (defScope sWeb_put_tie) := ⟨rfl, rfl, rfl, by decide +kernel, rfl, by decide +kernel, by decide +kernel⟩
def spPutTie (C : Addr) : Sp := fun vs H Q _ => ∃ (H0 : Hp) (p : Addr) (t : Step) (ks : List (Str × List Str)) (ts : List Step), vs = [.ref p, .str t.1, .str t.2.1, .str t.2.2] ∧ WebAt C H0 H p ks ts ∧ t ∉ ts ∧ ts.length < 300 ∧ t.1 ∈ ks.map (·.1) ∧ t.2.2 ∈ ks.map (·.1) ∧
  ∀ H' : Hp, WebAt C H0 H' p ks (ts ++ [t]) → Q .non H'
theorem ok_putTie {f C : Addr} {fd : FuncData} (F : Fun K "put_tie" "Web.put_tie" sWeb_put_tie f fd) (G : Gs K mg) (ClWeb : WebC K C) (DWeb_ask_knot : MDef P w K mg base 1 C "ask_knot" ["self", "name"] (spAsk C))
    (DWeb_has_tie : MDef P w K mg base 1 C "has_tie" ["self", "one", "word", "other"] (spHasTie C)) (DWeb_lay_tie : MDef P w K mg base 1 C "lay_tie" ["self", "tie"] (spLayTie C)) : FnOk P w K mg base CX0 2 f fd ["self", "one", "word", "other"] (spPutTie C) := by
  refine F.ok scWeb_put_tie (fun vs H Q E h => ?_) (fun cdv A outer s H vs Q E hr h => ?_)
  · obtain ⟨H0, p, t, ks, ts, rfl, _⟩ := h
    rfl
  obtain ⟨H0, p, t, ks, ts, rfl, hW, ht, hl, ht1, ht2, q⟩ := h
  obtain ⟨tk, m_MOST_TIES⟩ := G.ties
  have r_MOST_TIES : RelV (.int 300) (.int 300 tk) := ⟨tk, rfl⟩
  refine ⟨_, (pss_cons (ps_expr (pe_mdef (pv 0) ClWeb.cl DWeb_ask_knot (hr.mono (by omega)) (pa_cons (pv 1) pa_nil))) (pss_cons (ps_expr (pe_mdef (pv 0) ClWeb.cl DWeb_ask_knot (hr.mono (by omega)) (pa_cons (pv 3) pa_nil))) (pss_cons (ps_if (pt_val (pe_mdef (pv 0) ClWeb.cl DWeb_has_tie (hr.mono (by omega)) (pa_cons (pv 1) (pa_cons (pv 2) (pa_cons (pv 3) pa_nil))))) pss_never pss_nil) (pss_cons (ps_if (pt_cmpR op_ge (pe_callB call_len_dT (by rfl) G.len PySem.boot_len (pa_cons (pe_fld (pv 0) rfl) pa_nil)) (pe_glob rfl m_MOST_TIES r_MOST_TIES) (nomark _)) pss_never pss_nil) (pss_one (ps_expr (pe_mdef (pv 0) ClWeb.cl DWeb_lay_tie (hr.mono (by omega)) (pa_cons (pe_tup (pa_cons (pv 1) (pa_cons (pv 2) (pa_cons (pv 3) pa_nil)))) pa_nil)))))))), ?_⟩
  obtain ⟨s0, p0, nd, dx, a1, a2, a3, kvs, svs, h1, h2, h3, h4, h5, h6, h7, h8, h9, h10, h11⟩ := id hW
  have no : ∀ m : Str, ¬ m = "web_steps" → ¬ m = "web_ties" → ¬ m = "web_marks" → (webF a1 a2 a3).lookup m = none := fun m a b c => webF_no _ _ _ a b c
  have is : ∀ x ∈ ks.map (·.1), (valV kvs (Sum.inr x)).isSome = true := fun x hx => by
    obtain ⟨k, hk, rfl⟩ := List.mem_map.mp hx
    obtain ⟨⟨l, q1, _⟩, _⟩ := h11 k hk
    rw [q1]
    rfl
  refine ⟨_, rfl, p, dx, _, rfl, h1, no _ (by decide +kernel) (by decide +kernel) (by decide +kernel), _, rfl, p, t.1, dx, a1, a2, a3, kvs, rfl, h1, h2, is _ ht1, ?_⟩
  refine ⟨_, rfl, p, dx, _, rfl, h1, no _ (by decide +kernel) (by decide +kernel) (by decide +kernel), _, rfl, p, t.2.2, dx, a1, a2, a3, kvs, rfl, h1, h2, is _ ht2, ?_⟩
  refine ⟨_, rfl, p, dx, _, rfl, h1, no _ (by decide +kernel) (by decide +kernel) (by decide +kernel), _, rfl, _, rfl, _, rfl, H0, p, t, ks, ts, rfl, hW, fun H1 e1 => ⟨_, rfl, ?_⟩⟩
  rw [decide_eq_false ht]
  refine iteF ?_
  refine ⟨_, rfl, p, C, dx, _, _, rfl, e1 _ _ h1, ClWeb.cl, ClWeb.n2, webF_ties _ _ _, a2, _, rfl, e1 _ _ h3, _, _, rfl, rfl, _, rfl, ite_f (decide_eq_false (by unfold tieD; rw [List.length_map]; omega)) ?_⟩
  refine ⟨_, rfl, p, dx, _, rfl, e1 _ _ h1, no _ (by decide +kernel) (by decide +kernel) (by decide +kernel), _, rfl, _, rfl, _, rfl, by show 3 ≤ sizeLine; decide, fun b hb => ?_⟩
  exact ⟨H0, p, b, t, ks, ts, rfl, hW.mono (e1.trans (same_new hb)), upd_same, ht, by omega, ht1, ht2, q⟩
end
end PK
set_option Elab.async false
set_option linter.all false
set_option maxRecDepth 100000
set_option autoImplicit false
/-! Leaves of the law's patterns, how large patterns are. -/
namespace PK
open PySem PySem.Spec PyProof.Rows L2

theorem atI_ex {α : Type} {xs : List α} {i : Int} (h0 : 0 ≤ i) (h1 : i < xs.length) : ∃ v, xs[i.toNat]? = some v ∧ atI xs i = some v := by
  have hl : i.toNat < xs.length := by omega
  have q : atI xs ((i.toNat : Nat) : Int) = some xs[i.toNat] := atI_nat (List.getElem?_eq_getElem hl)
  refine ⟨xs[i.toNat], List.getElem?_eq_getElem hl, ?_⟩
  have e : ((i.toNat : Nat) : Int) = i := by omega
  generalize xs[i.toNat] = v at q
  rw [e] at q
  exact q
theorem atI_mem {α : Type} {xs : List α} {i : Int} (h0 : 0 ≤ i) (h1 : i < xs.length) : ∃ v, v ∈ xs ∧ atI xs i = some v := by
  obtain ⟨v, hv, e⟩ := atI_ex h0 h1
  exact ⟨v, List.mem_of_getElem? hv, e⟩
theorem atI_strs {xs : List Str} {i : Int} (h0 : 0 ≤ i) (h1 : i < xs.length) : ∃ x, x ∈ xs ∧ atI (xs.map V.str) i = some (.str x) := by
  obtain ⟨v, hv, e⟩ := atI_mem (xs := xs.map V.str) h0 (by rw [List.length_map]; exact h1)
  obtain ⟨x, hx, rfl⟩ := List.mem_map.mp hv
  exact ⟨x, hx, e⟩
theorem atI_ints {xs : List Int} {i : Int} (h0 : 0 ≤ i) (h1 : i < xs.length) : ∃ x, xs[i.toNat]? = some x ∧ atI (xs.map V.int) i = some (.int x) := by
  obtain ⟨v, hv, e⟩ := atI_ex (xs := xs.map V.int) h0 (by rw [List.length_map]; exact h1)
  rw [List.getElem?_map] at hv
  cases hx : xs[i.toNat]? with
  | none => rw [hx] at hv; cases hv
  | some x =>
    rw [hx] at hv
    cases hv
    exact ⟨x, rfl, e⟩

def sidesL : List Str := ["on", "back"]
def wordsL : List Str := ["a", "ab", "stay"]
def wordsW : List Str := ["a", "ab", "stay", "*"]
def marksL : List Str := ["a", "many"]
def knotsL : List Str := ["a", "ab", "on", "back", "m", "knot"]
/-- a leaf of the law's -/
def LeafOk : Leaf → Prop
  | .stay => True
  | .step s w => s ∈ sidesL ∧ w ∈ wordsW
  | .at m => m ∈ marksL
  | .off m => m ∈ marksL
mutual
/-- stands more, edges, depth -/
def frs : Pt → Nat
  | .leaf _ => 0
  | .thn ps => frsAll ps + (ps.length - 1)
  | .eit ps => frsAll ps
  | .many p => frs p + 1
def frsAll : List Pt → Nat
  | [] => 0
  | p :: ps => frs p + frsAll ps
end
mutual
def eds : Pt → Nat
  | .leaf _ => 1
  | .thn ps => if ps.isEmpty then 1 else edsAll ps
  | .eit ps => edsAll ps
  | .many p => eds p + 2
def edsAll : List Pt → Nat
  | [] => 0
  | p :: ps => eds p + edsAll ps
end
mutual
def dps : Pt → Nat
  | .leaf _ => 1
  | .thn ps => dpsAll ps + 1
  | .eit ps => dpsAll ps + 1
  | .many p => dps p + 1
def dpsAll : List Pt → Nat
  | [] => 0
  | p :: ps => max (dps p) (dpsAll ps)
end
mutual
def LOk : Pt → Prop
  | .leaf l => LeafOk l
  | .thn ps => LOkAll ps
  | .eit ps => LOkAll ps
  | .many p => LOk p
def LOkAll : List Pt → Prop
  | [] => True
  | p :: ps => LOk p ∧ LOkAll ps
end
theorem LOkAll.mem : ∀ {ps : List Pt} {p : Pt}, LOkAll ps → p ∈ ps → LOk p
  | [], _, _, h => by cases h
  | q :: ps, p, h, hp => by
    simp only [LOkAll] at h
    rcases List.mem_cons.mp hp with rfl | hp
    · exact h.1
    · exact LOkAll.mem h.2 hp
theorem LOkAll.of : ∀ {ps : List Pt}, (∀ p ∈ ps, LOk p) → LOkAll ps
  | [], _ => by simp only [LOkAll]
  | q :: ps, h => by
    simp only [LOkAll]
    exact ⟨h q List.mem_cons_self, LOkAll.of fun p hp => h p (List.mem_cons_of_mem _ hp)⟩
theorem frsAll_le {n : Nat} : ∀ {ps : List Pt}, (∀ p ∈ ps, frs p ≤ n) → frsAll ps ≤ ps.length * n
  | [], _ => by simp [frsAll]
  | q :: ps, h => by
    have h1 := h q List.mem_cons_self
    have h2 := frsAll_le fun p hp => h p (List.mem_cons_of_mem _ hp)
    simp only [frsAll, List.length_cons, Nat.add_mul, Nat.one_mul]
    omega
theorem edsAll_le {n : Nat} : ∀ {ps : List Pt}, (∀ p ∈ ps, eds p ≤ n) → edsAll ps ≤ ps.length * n
  | [], _ => by simp [edsAll]
  | q :: ps, h => by
    have h1 := h q List.mem_cons_self
    have h2 := edsAll_le fun p hp => h p (List.mem_cons_of_mem _ hp)
    simp only [edsAll, List.length_cons, Nat.add_mul, Nat.one_mul]
    omega
theorem dpsAll_le {n : Nat} : ∀ {ps : List Pt}, (∀ p ∈ ps, dps p ≤ n) → dpsAll ps ≤ n
  | [], _ => by simp [dpsAll]
  | q :: ps, h => by
    have h1 := h q List.mem_cons_self
    have h2 := dpsAll_le fun p hp => h p (List.mem_cons_of_mem _ hp)
    simp only [dpsAll]
    omega
theorem dps_mem : ∀ {ps : List Pt} {p : Pt}, p ∈ ps → dps p ≤ dpsAll ps
  | [], _, h => by cases h
  | q :: ps, p, hp => by
    simp only [dpsAll]
    rcases List.mem_cons.mp hp with rfl | hp
    · omega
    · have := dps_mem hp
      omega
/-- a pattern of the law's, of bounded size -/
structure PtOk (p : Pt) (f e d : Nat) : Prop where
  lo : LOk p
  fr : frs p ≤ f
  ed : eds p ≤ e
  dp : dps p ≤ d

section
variable {K : PySem.W.Frag} {H : Hp}
theorem thnMk {ps : List Pt} {a b : Addr} {xs : List V} (h1 : SqT K H a [.str "then", .ref b]) (h2 : SqT K H b xs) (h3 : DtAll K H xs (ps.map patD)) : Dt K H (.ref a) (patD (.thn ps)) := by
  rw [patD, patDs_map]
  exact .tup h1 (.cons (.str _) (.cons (.tup h2 h3) .nil))
theorem eitMk {ps : List Pt} {a b : Addr} {xs : List V} (h1 : SqT K H a [.str "either", .ref b]) (h2 : SqT K H b xs) (h3 : DtAll K H xs (ps.map patD)) : Dt K H (.ref a) (patD (.eit ps)) := by
  rw [patD, patDs_map]
  exact .tup h1 (.cons (.str _) (.cons (.tup h2 h3) .nil))
theorem manyMk {p : Pt} {a : Addr} {v : V} (h1 : SqT K H a [.str "many", v]) (h2 : Dt K H v (patD p)) : Dt K H (.ref a) (patD (.many p)) := by
  rw [patD]
  exact .tup h1 (.cons (.str _) (.cons h2 .nil))
end
section
variable {P : Program} {w : World} {K : PySem.W.Frag} {mg : Str → Option Value} {base : Heap}
/-- a promise that nothing can be asked of -/
theorem fnOk_none {k : Nat} {f : Addr} {fd : FuncData} {ps : List Str} {sp : Sp} (h : ∀ vs H Q E, ¬ sp vs H Q E) : FnOk P w K mg base CX0 k f fd ps sp :=
  ⟨fun vs H Q E q => absurd q (h _ _ _ _), fun _ _ _ _ _ _ _ _ _ _ _ _ _ q => absurd q (h _ _ _ _)⟩
end
/-- bounds by depth -/
def Fr : Nat → Nat
  | 0 => 0
  | 1 => 1
  | 2 => 5
  | _ => 11
def Ed : Nat → Nat
  | 0 => 1
  | 1 => 3
  | 2 => 9
  | _ => 18
def Wm : Nat → Int
  | 0 => 5
  | 1 => 8
  | _ => 9
def Nm : Nat → Int
  | 0 => 1
  | 1 => 3
  | 2 => 4
  | _ => 3
theorem wm_at {d : Nat} (h : d ≤ 3) : atI [V.int 5, V.int 8, V.int 9] (if (2 : Int) < (d : Nat) then 2 else (d : Nat)) = some (.int (Wm d)) := by
  match d, h with
  | 0, _ => rfl
  | 1, _ => rfl
  | 2, _ => rfl
  | 3, _ => rfl
theorem nm_at {d : Nat} (h : d ≤ 3) : atI [V.int 1, V.int 3, V.int 4, V.int 3] (if (3 : Int) < (d : Nat) then 3 else (d : Nat)) = some (.int (Nm d)) := by
  match d, h with
  | 0, _ => rfl
  | 1, _ => rfl
  | 2, _ => rfl
  | 3, _ => rfl
/-- the bounds of a pattern of parts -/
theorem pt_parts {d c : Nat} (hd : d < 3) {ps : List Pt} (hp : ∀ p ∈ ps, PtOk p (Fr d) (Ed d) (d + 1)) (hc : ps.length ≤ c) (hcn : (c : Int) < Nm (d + 1)) : PtOk (.thn ps) (Fr (d + 1)) (Ed (d + 1)) (d + 2) ∧ PtOk (.eit ps) (Fr (d + 1)) (Ed (d + 1)) (d + 2) := by
  have h1 := frsAll_le fun p h => (hp p h).fr
  have h2 := edsAll_le fun p h => (hp p h).ed
  have h3 := dpsAll_le fun p h => (hp p h).dp
  have h4 := LOkAll.of fun p h => (hp p h).lo
  have key : ps.length * Fr d + (ps.length - 1) ≤ Fr (d + 1) ∧ ps.length * Ed d ≤ Ed (d + 1) ∧ 1 ≤ Ed (d + 1) := by
    match d, hd with
    | 0, _ =>
      simp only [Fr, Ed, Nm] at *
      omega
    | 1, _ =>
      simp only [Fr, Ed, Nm] at *
      omega
    | 2, _ =>
      simp only [Fr, Ed, Nm] at *
      omega
  refine ⟨⟨by simp only [LOk]; exact h4, by simp only [frs]; omega, ?_, by simp only [dps]; omega⟩, ⟨by simp only [LOk]; exact h4, by simp only [frs]; omega, by simp only [eds]; omega, by simp only [dps]; omega⟩⟩
  simp only [eds]
  split <;> omega
theorem pt_many {d : Nat} (hd : d < 3) {p : Pt} (hp : PtOk p (Fr d) (Ed d) (d + 1)) : PtOk (.many p) (Fr (d + 1)) (Ed (d + 1)) (d + 2) := by
  obtain ⟨h1, h2, h3, h4⟩ := hp
  refine ⟨by simp only [LOk]; exact h1, ?_, ?_, by simp only [dps]; omega⟩
  · simp only [frs]
    match d, hd with
    | 0, _ => simp only [Fr] at *; omega
    | 1, _ => simp only [Fr] at *; omega
    | 2, _ => simp only [Fr] at *; omega
  · simp only [eds]
    match d, hd with
    | 0, _ => simp only [Ed] at *; omega
    | 1, _ => simp only [Ed] at *; omega
    | 2, _ => simp only [Ed] at *; omega
theorem pt_leaf {d : Nat} {l : Leaf} (h : LeafOk l) : PtOk (.leaf l) (Fr d) (Ed d) (d + 1) := by
  refine ⟨by simp only [LOk]; exact h, by simp only [frs]; omega, ?_, by simp only [dps]; omega⟩
  simp only [eds]
  match d with
  | 0 => simp only [Ed]; omega
  | 1 => simp only [Ed]; omega
  | 2 => simp only [Ed]; omega
  | n + 3 => simp only [Ed]; omega
theorem wm_pos (d : Nat) : 0 < Wm d ∧ Wm d ≤ 9 := by
  match d with
  | 0 => simp only [Wm]; omega
  | 1 => simp only [Wm]; omega
  | n + 2 => simp only [Wm]; omega
theorem nm_pos (d : Nat) : 0 < Nm d ∧ Nm d ≤ 4 := by
  match d with
  | 0 => simp only [Nm]; omega
  | 1 => simp only [Nm]; omega
  | 2 => simp only [Nm]; omega
  | n + 3 => simp only [Nm]; omega
end PK
set_option Elab.async false
set_option linter.all false
set_option maxRecDepth 100000
set_option autoImplicit false
set_option maxHeartbeats 2000000
/-! The law's small defs: cells, draws, names, leaves. -/
namespace PK
open PySem PySem.Spec PyProof.Rows L2
section
variable {P : Program} {w : World} {K : PySem.W.Frag} {mg : Str → Option Value} {base : Heap}

abbrev scell_at : Stmt := top 21
abbrev Nsccell_at : List Str := ["_law_script", "_law_k"]
theorem sccell_at : FnScope Nsccell_at ["_law_script", "_law_k"] (defScope scell_at) := ⟨rfl, rfl, rfl, by decide +kernel, rfl, by decide +kernel, by decide +kernel⟩
def spCellAt (K : PySem.W.Frag) : Sp := fun vs H Q _ => ∃ (a : Addr) (ns : List Int) (k : Int), vs = [.ref a, .int k] ∧ SqL K H a (ns.map V.int) ∧ 0 ≤ k ∧ ∀ x : Int, Q (.int x) H
theorem ok_cellAt {f : Addr} {fd : FuncData} (F : Fun K "_law_cell_at" "_law_cell_at" scell_at f fd) (G : Gs K mg) : FnOk P w K mg base CX0 1 f fd ["_law_script", "_law_k"] (spCellAt K) := by
  refine F.ok sccell_at (fun vs H Q E h => ?_) (fun cdv A outer s H vs Q E hr h => ?_)
  · obtain ⟨a, ns, k, rfl, _⟩ := h
    rfl
  obtain ⟨a, ns, k, rfl, hS, h0, q⟩ := h
  refine ⟨_, (pss_cons (ps_if (pt_cmpR op_lt (pv 1) (pe_callB call_len_seq (by rfl) G.len PySem.boot_len (pa_cons (pv 0) pa_nil)) (nomark _)) (pss_one (ps_ret (pe_ix ix_list (pv 0) (pv 1) (fun _ _ => rfl)))) pss_nil) (pss_one (ps_ret pe_int))), ?_⟩
  refine ⟨_, rfl, _, rfl, a, _, rfl, .inl hS, _, _, rfl, rfl, _, rfl, ?_⟩
  refine ite_b (fun c => ?_) (fun c => ?_)
  · have c := of_decide_eq_true c
    rw [List.length_map] at c
    obtain ⟨x, _, e⟩ := atI_ints h0 c
    exact ⟨_, rfl, _, rfl, a, _, _, _, rfl, rfl, hS, e, q x⟩
  · exact q 0

abbrev sdraws : Stmt := top 22
abbrev Nscdraws : List Str := ["_law_cell", "_law_sizes", "_law_found", "_law_figures", "_law_k", "_law_mixed"]
theorem scdraws : FnScope Nscdraws ["_law_cell", "_law_sizes"] (defScope sdraws) := ⟨rfl, rfl, rfl, by decide +kernel, rfl, by decide +kernel, by decide +kernel⟩
def spDraws (K : PySem.W.Frag) : Sp := fun vs H Q _ => ∃ (c : Int) (a : Addr) (ns : List Int), vs = [.int c, .ref a] ∧ SqL K H a (ns.map V.int) ∧ ns.length ≤ 1000 ∧ (∀ n ∈ ns, 0 < n ∧ n < 1073741824) ∧
  ∀ (H' : Hp) (r : Addr) (ds : List Int), Same H H' → H' r = some (.lst (ds.map V.int)) → ds.length = ns.length → (∀ (i : Nat) d n, ds[i]? = some d → ns[i]? = some n → 0 ≤ d ∧ d < n) → Q (.ref r) H'
theorem ok_draws {f : Addr} {fd : FuncData} (F : Fun K "_law_draws" "_law_draws" sdraws f fd) (G : Gs K mg) : FnOk P w K mg base CX0 1 f fd ["_law_cell", "_law_sizes"] (spDraws K) := by
  refine F.ok scdraws (fun vs H Q E h => ?_) (fun cdv A outer s H vs Q E hr h => ?_)
  · obtain ⟨c, a, ns, rfl, _⟩ := h
    rfl
  obtain ⟨c, a, ns, rfl, hS, hl, hn, q⟩ := h
  refine ⟨_, (pss_cons (ps_set (i := 2) scdraws.nd rfl (Or.inl rfl) (pe_lst pa_nil)) (pss_cons (ps_set (i := 3) scdraws.nd rfl (Or.inl rfl) (pe_op op_sub (pv 0) (pe_op op_pow pe_int pe_int))) (pss_cons (ps_for PassesOwn.never rfl (pi_range1 rfl G.range (pa_cons (pe_callB call_len_seq (by rfl) G.len PySem.boot_len (pa_cons (pv 1) pa_nil)) pa_nil)) (pg_name (i := 4) scdraws.nd rfl (Or.inl rfl)) (pss_cons (ps_set (i := 5) scdraws.nd rfl (Or.inl rfl) (pe_op op_mod (pe_op op_mul (pe_op op_add (pe_op op_mod (pv 0) pe_int) pe_int) (pe_op op_add (pe_op op_mul (pv 4) (pv 4)) pe_int)) pe_int)) (pss_cons (ps_set (i := 5) scdraws.nd rfl (Or.inl rfl) (pe_op op_mod (pe_op op_mul (pe_op op_add (pe_op op_add (pe_op op_mul (pv 5) (pv 5)) (pe_op op_mul pe_int (pv 4))) pe_int) pe_int) pe_int)) (pss_cons (ps_if (pt_cmpR op_ge (pv 0) (pe_op op_pow pe_int pe_int) (nomark _)) (pss_one (ps_set (i := 5) scdraws.nd rfl (Or.inl rfl) (pv 3))) pss_nil) (pss_cons (ps_expr (pe_bm PySem.F.plainAttrs_list PySem.F.slot_list_append PySem.F.type_list_append mt_append (pv 2) (pa_cons (pe_op op_mod (pv 5) (pe_ix ix_list (pv 1) (pv 4) (fun _ _ => rfl))) pa_nil))) (pss_one (ps_set (i := 3) scdraws.nd rfl (Or.inl rfl) (pe_op op_fdiv (pv 3) (pe_ix ix_list (pv 1) (pv 4) (fun _ _ => rfl)))))))))) (pss_one (ps_ret (pv 2)))))), ?_⟩
  refine ⟨by show 0 ≤ sizeLine; decide, fun r hr0 => ?_⟩
  have s0 : Same H (upd H r (.lst [])) := same_new hr0
  refine ⟨_, rfl, _, _, rfl, rfl, ⟨by decide, by decide, by decide⟩, _, _, rfl, rfl, ?_⟩
  refine ⟨_, rfl, a, _, rfl, .inl (s0.seq hS), _, rfl, ?_, ?_, ?_⟩
  · omega
  · rw [List.length_map]; omega
  rw [show (((ns.map V.int).length : Nat) : Int).toNat = ns.length by rw [List.length_map]; omega]
  refine for_range (lo := 0) (n := ns.length) (fun i σ H' => ∃ (fg : Int) (o4 o5 : Option V) (ds : List Int), σ = [some (.int c), some (.ref a), some (.ref r), some (.int fg), o4, o5] ∧ Same H H' ∧ H' r = some (.lst (ds.map V.int)) ∧ ds.length = i ∧ ∀ (j : Nat) d n, ds[j]? = some d → ns[j]? = some n → 0 ≤ d ∧ d < n)
    ⟨_, none, none, [], rfl, s0, upd_same, rfl, fun j d n h => by simp at h⟩ ?_ ?_
  · rintro i σ H' hi ⟨fg, o4, o5, ds, rfl, sm, hrl, hlen, hd⟩
    have hi' : ns[i]? = some ns[i] := List.getElem?_eq_getElem hi
    generalize ns[i] = n at hi'
    obtain ⟨hn1, hn2⟩ := hn n (List.mem_of_getElem? hi')
    have hat : atI (ns.map V.int) (0 + (i : Nat)) = some (.int n) := by
      rw [Int.zero_add]
      exact atI_nat (by rw [List.getElem?_map, hi']; rfl)
    -- the first mix
    refine ⟨_, rfl, _, _, rfl, rfl, (by show (0 : Int) < 1000003; decide), _, _, rfl, rfl, ?_⟩
    refine ⟨_, rfl, _, rfl, _, _, rfl, rfl, .inl ⟨by omega, by omega⟩, _, _, rfl, rfl, ?_⟩
    refine ⟨_, _, rfl, rfl, .inl ⟨by omega, by omega⟩, _, _, rfl, rfl, (by show (0 : Int) < 65537; decide), ?_⟩
    -- the second mix
    refine ⟨_, rfl, _, rfl, _, _, rfl, rfl, .inl ⟨by omega, by omega⟩, ?_⟩
    refine ⟨_, rfl, _, _, rfl, rfl, .inl ⟨by omega, by omega⟩, _, _, rfl, rfl, _, _, rfl, rfl, _, _, rfl, rfl, .inr ⟨by omega, by omega⟩, _, _, rfl, rfl, (by show (0 : Int) < 999983; decide), ?_⟩
    -- if cell >= 10 ** 18
    refine ⟨_, rfl, _, _, rfl, rfl, ⟨by decide, by decide, by decide⟩, _, _, rfl, rfl, _, rfl, ?_⟩
    have goal : ∀ m3 : Int, ∃ (fg' : Int) (o4 o5 : Option V) (ds' : List Int), [some (V.int c), some (V.ref a), some (V.ref r), some (V.int (fg / n)), some (V.int (0 + (i : Nat))), some (V.int m3)] = [some (V.int c), some (.ref a), some (.ref r), some (.int fg'), o4, o5] ∧ Same H (upd H' r (.lst (ds.map V.int ++ [.int (m3 % n)]))) ∧ (upd H' r (.lst (ds.map V.int ++ [.int (m3 % n)]))) r = some (.lst (ds'.map V.int)) ∧ ds'.length = i + 1 ∧ ∀ (j : Nat) d n, ds'[j]? = some d → ns[j]? = some n → 0 ≤ d ∧ d < n := fun m3 => by
      refine ⟨_, _, _, ds ++ [m3 % n], rfl, same_put sm hr0, by rw [upd_same, List.map_append]; rfl, by rw [List.length_append, List.length_singleton, hlen], fun j d n' hj hn' => ?_⟩
      by_cases hjl : j < ds.length
      · rw [List.getElem?_append_left hjl] at hj
        exact hd j d n' hj hn'
      · have hj2 : j = i := by
          have := (List.getElem?_eq_some_iff.mp hj).1
          rw [List.length_append, List.length_singleton] at this
          omega
        subst hj2
        rw [List.getElem?_append_right (by omega), show j - ds.length = 0 by omega] at hj
        have e1 : m3 % n = d := Option.some.inj hj
        rw [hi'] at hn'
        cases hn'
        rw [← e1]
        exact ⟨Int.emod_nonneg _ (by omega), Int.emod_lt_of_pos _ hn1⟩
    have hsz : (ds.map V.int).length < sizeLine := by rw [List.length_map]; exact line_lt (by omega)
    refine ite_b (fun _ => ?_) (fun _ => ?_)
    · refine ⟨_, rfl, ?_⟩
      refine ⟨_, rfl, Or.inl ⟨rfl, _, SqL.of hrl⟩, _, rfl, _, rfl, _, rfl, a, _, _, _, rfl, rfl, sm.seq hS, hat, _, _, rfl, rfl, hn1, r, _, _, rfl, rfl, hrl, hsz, ?_⟩
      refine ⟨_, rfl, _, rfl, _, rfl, a, _, _, _, rfl, rfl, (same_put sm hr0).seq hS, hat, _, _, rfl, rfl, ⟨hn1, hn2⟩, ?_⟩
      exact goal fg
    · refine ⟨_, rfl, Or.inl ⟨rfl, _, SqL.of hrl⟩, _, rfl, _, rfl, _, rfl, a, _, _, _, rfl, rfl, sm.seq hS, hat, _, _, rfl, rfl, hn1, r, _, _, rfl, rfl, hrl, hsz, ?_⟩
      refine ⟨_, rfl, _, rfl, _, rfl, a, _, _, _, rfl, rfl, (same_put sm hr0).seq hS, hat, _, _, rfl, rfl, ⟨hn1, hn2⟩, ?_⟩
      exact goal _
  · rintro σ H' ⟨fg, o4, o5, ds, rfl, sm, hrl, hlen, hd⟩
    exact ⟨_, rfl, q H' r ds sm hrl hlen hd⟩

/-- a new list of written texts -/
def spTexts (xs : List Str) : Sp := fun vs H Q _ => vs = [] ∧ ∀ p, H p = none → Q (.ref p) (upd H p (.lst (xs.map V.str)))
abbrev sknots : Stmt := top 23
abbrev Nscknots : List Str := []
theorem scknots : FnScope Nscknots [] (defScope sknots) := ⟨rfl, rfl, rfl, by decide +kernel, rfl, by decide +kernel, by decide +kernel⟩
theorem ok_knots {f : Addr} {fd : FuncData} (F : Fun K "_law_knots" "_law_knots" sknots f fd) : FnOk P w K mg base CX0 1 f fd [] (spTexts knotsL) := by
  refine F.ok scknots (fun vs H Q E h => ?_) (fun cdv A outer s H vs Q E hr h => ?_)
  · obtain ⟨rfl, _⟩ := h
    rfl
  obtain ⟨rfl, q⟩ := h
  exact ⟨_, (pss_one (ps_ret (pe_lst (pa_cons pe_str (pa_cons pe_str (pa_cons pe_str (pa_cons pe_str (pa_cons pe_str (pa_cons pe_str pa_nil))))))))), by show 6 ≤ sizeLine; decide, q⟩
abbrev swords : Stmt := top 24
abbrev Nscwords : List Str := []
theorem scwords : FnScope Nscwords [] (defScope swords) := ⟨rfl, rfl, rfl, by decide +kernel, rfl, by decide +kernel, by decide +kernel⟩
theorem ok_words {f : Addr} {fd : FuncData} (F : Fun K "_law_words" "_law_words" swords f fd) : FnOk P w K mg base CX0 1 f fd [] (spTexts wordsL) := by
  refine F.ok scwords (fun vs H Q E h => ?_) (fun cdv A outer s H vs Q E hr h => ?_)
  · obtain ⟨rfl, _⟩ := h
    rfl
  obtain ⟨rfl, q⟩ := h
  exact ⟨_, (pss_one (ps_ret (pe_lst (pa_cons pe_str (pa_cons pe_str (pa_cons pe_str pa_nil)))))), by show 3 ≤ sizeLine; decide, q⟩
abbrev smarks : Stmt := top 25
abbrev Nscmarks : List Str := []
theorem scmarks : FnScope Nscmarks [] (defScope smarks) := ⟨rfl, rfl, rfl, by decide +kernel, rfl, by decide +kernel, by decide +kernel⟩
theorem ok_lmarks {f : Addr} {fd : FuncData} (F : Fun K "_law_marks" "_law_marks" smarks f fd) : FnOk P w K mg base CX0 1 f fd [] (spTexts marksL) := by
  refine F.ok scmarks (fun vs H Q E h => ?_) (fun cdv A outer s H vs Q E hr h => ?_)
  · obtain ⟨rfl, _⟩ := h
    rfl
  obtain ⟨rfl, q⟩ := h
  exact ⟨_, (pss_one (ps_ret (pe_lst (pa_cons pe_str (pa_cons pe_str pa_nil))))), by show 2 ≤ sizeLine; decide, q⟩

abbrev sleaf : Stmt := top 29
abbrev Nscleaf : List Str := ["_law_way", "_law_number"]
theorem scleaf : FnScope Nscleaf ["_law_way", "_law_number"] (defScope sleaf) := ⟨rfl, rfl, rfl, by decide +kernel, rfl, by decide +kernel, by decide +kernel⟩
def spLeaf (K : PySem.W.Frag) : Sp := fun vs H Q _ => ∃ (wy nm : Int), vs = [.int wy, .int nm] ∧ 0 ≤ wy ∧ wy ≤ 4 ∧ 0 ≤ nm ∧ ∀ (H' : Hp) (v : V) (l : Leaf), Same H H' → Dt K H' v (leafD l) → LeafOk l → Q v H'
theorem ok_leaf {f : Addr} {fd : FuncData} (F : Fun K "_law_leaf" "_law_leaf" sleaf f fd) (D_law_words : Def P w K mg base 1 "_law_words" [] (spTexts wordsL)) (D_law_marks : Def P w K mg base 1 "_law_marks" [] (spTexts marksL)) :
    FnOk P w K mg base CX0 2 f fd ["_law_way", "_law_number"] (spLeaf K) := by
  refine F.ok scleaf (fun vs H Q E h => ?_) (fun cdv A outer s H vs Q E hr h => ?_)
  · obtain ⟨wy, nm, rfl, _⟩ := h
    rfl
  obtain ⟨wy, nm, rfl, h0, h4, hn, q⟩ := h
  refine ⟨_, (pss_cons (ps_if (pt_cmpR op_eq (pv 0) pe_int (nomark _)) (pss_one (ps_ret (pe_tup (pa_cons pe_str pa_nil)))) pss_nil) (pss_cons (ps_if (pt_cmpR op_lt (pv 0) pe_int (nomark _)) (pss_one (ps_ret (pe_tup (pa_cons pe_str (pa_cons (pe_ix ix_list (pe_lst (pa_cons pe_str (pa_cons pe_str pa_nil))) (pe_op op_mod (pv 1) pe_int) (fun _ _ => rfl)) (pa_cons (pe_ix ix_list (pe_op op_cat (pe_def0 D_law_words (hr.mono (by omega)) rfl) (pe_lst (pa_cons pe_str pa_nil))) (pe_op op_mod (pe_op op_fdiv (pv 1) pe_int) pe_int) (fun _ _ => rfl)) pa_nil)))))) pss_nil) (pss_one (ps_ret (pe_tup (pa_cons (pe_ix ix_list (pe_lst (pa_cons pe_str (pa_cons pe_str pa_nil))) (pe_op op_sub (pv 0) pe_int) (fun _ _ => rfl)) (pa_cons (pe_ix ix_list (pe_def0 D_law_marks (hr.mono (by omega)) rfl) (pe_op op_mod (pv 1) pe_int) (fun _ _ => rfl)) pa_nil))))))), ?_⟩
  refine ⟨_, rfl, rfl, _, rfl, ?_⟩
  refine ite_b (fun c => ?_) (fun c => ?_)
  · refine ⟨by show 1 ≤ sizeLine; decide, fun t ht => ?_⟩
    exact q _ _ .stay (same_new ht) (leafMk (l := .stay) (SqT.of upd_same)) trivial
  have c : wy ≠ 0 := fun z => by rw [z] at c; exact absurd c (by decide)
  refine ⟨_, rfl, _, _, rfl, rfl, _, rfl, ?_⟩
  refine ite_b (fun c2 => ?_) (fun c2 => ?_)
  · -- a step
    refine ⟨by show 2 ≤ sizeLine; decide, fun l1 hl1 => ?_⟩
    obtain ⟨sd, hsd, e1⟩ := atI_strs (xs := sidesL) (i := nm % 2) (by omega) (by show nm % 2 < 2; omega)
    refine ⟨_, rfl, _, _, rfl, rfl, (by show (0 : Int) < 2; decide), l1, _, _, _, rfl, rfl, SqL.of upd_same, e1, ?_⟩
    refine ⟨rfl, fun l2 hl2 => ?_⟩
    have n12 : l1 ≠ l2 := fun z => by rw [← z, upd_same] at hl2; cases hl2
    refine ⟨by show 1 ≤ sizeLine; decide, fun l3 hl3 => ?_⟩
    have n23 : l2 ≠ l3 := fun z => by rw [← z, upd_same] at hl3; cases hl3
    refine ⟨l2, l3, _, _, rfl, rfl, by rw [upd_ne n23, upd_same], upd_same, by show 3 + 1 ≤ sizeLine; decide, fun l4 hl4 => ?_⟩
    obtain ⟨wd, hwd, e2⟩ := atI_strs (xs := wordsW) (i := nm / 2 % 4) (by omega) (by show nm / 2 % 4 < 4; omega)
    refine ⟨_, rfl, _, _, rfl, rfl, ⟨by decide, by decide⟩, _, _, rfl, rfl, (by show (0 : Int) < 4; decide), l4, _, _, _, rfl, rfl, SqL.of upd_same, e2, ?_⟩
    refine ⟨by show 3 ≤ sizeLine; decide, fun t ht => ?_⟩
    exact q _ _ (.step sd wd) ((((same_new hl1).trans (same_new hl2)).trans (same_new hl3)).trans ((same_new hl4).trans (same_new ht))) (leafMk (l := .step sd wd) (SqT.of upd_same)) ⟨hsd, hwd⟩
  · have c2 : ¬ wy < 3 := of_decide_eq_false c2
    refine ⟨by show 2 ≤ sizeLine; decide, fun l1 hl1 => ?_⟩
    obtain ⟨sd, hsd, e1⟩ := atI_strs (xs := (["at", "off"] : List Str)) (i := wy - 3) (by omega) (by show wy - 3 < 2; omega)
    refine ⟨_, rfl, _, _, rfl, rfl, l1, _, _, _, rfl, rfl, SqL.of upd_same, e1, ?_⟩
    refine ⟨rfl, fun l2 hl2 => ?_⟩
    obtain ⟨mk, hmk, e2⟩ := atI_strs (xs := marksL) (i := nm % 2) (by omega) (by show nm % 2 < 2; omega)
    refine ⟨_, rfl, _, _, rfl, rfl, (by show (0 : Int) < 2; decide), l2, _, _, _, rfl, rfl, SqL.of upd_same, e2, ?_⟩
    refine ⟨by show 2 ≤ sizeLine; decide, fun t ht => ?_⟩
    have sm := ((same_new (o := .lst [.str "at", .str "off"]) hl1).trans (same_new (o := .lst (marksL.map V.str)) hl2)).trans (same_new (o := .tup [.str sd, .str mk]) ht)
    rcases List.mem_cons.mp hsd with rfl | hsd
    · exact q _ _ (.at mk) sm (leafMk (l := .at mk) (SqT.of upd_same)) hmk
    · rw [List.mem_singleton.mp hsd] at sm ⊢
      exact q _ _ (.off mk) sm (leafMk (l := .off mk) (SqT.of upd_same)) hmk
end
end PK
set_option Elab.async false
set_option linter.all false
set_option maxRecDepth 100000
set_option autoImplicit false
set_option maxHeartbeats 2000000
/-! The law's patterns. -/
namespace PK
open PySem PySem.Spec PyProof.Rows L2
section
variable {P : Program} {w : World} {K : PySem.W.Frag} {mg : Str → Option Value} {base : Heap}

abbrev spart : Stmt := top 30
abbrev Nscpart : List Str := ["_law_ds", "_law_at", "_law_deep", "_law_way", "_law_number", "_law_part_here", "_law_parts", "_law_k"]
theorem scpart : FnScope Nscpart ["_law_ds", "_law_at", "_law_deep"] (defScope spart) := ⟨rfl, rfl, rfl, by decide +kernel, rfl, by decide +kernel, by decide +kernel⟩
/-- down to depth 0 from a depth below n -/
def spPart (K : PySem.W.Frag) (n : Nat) : Sp := fun vs H Q _ => ∃ (a : Addr) (ds : List Int) (at_ : Int) (d : Nat), vs = [.ref a, .int at_, .int (d : Nat)] ∧ d < n ∧ d ≤ 3 ∧ SqL K H a (ds.map V.int) ∧ 0 < ds.length ∧ (∀ x ∈ ds, 0 ≤ x) ∧
  ∀ (H' : Hp) (r : Addr) (v : V) (p : Pt) (at' : Int), Same H H' → H' r = some (.tup [v, .int at']) → Dt K H' v (patD p) → PtOk p (Fr d) (Ed d) (d + 1) → Q (.ref r) H'
theorem ok_part {f : Addr} {fd : FuncData} {k n : Nat} (hk : 2 ≤ k) (F : Fun K "_law_part" "_law_part" spart f fd) (G : Gs K mg) (D_law_leaf : Def P w K mg base 2 "_law_leaf" ["_law_way", "_law_number"] (spLeaf K))
    (D_law_part : Def P w K mg base k "_law_part" ["_law_ds", "_law_at", "_law_deep"] (spPart K n)) : FnOk P w K mg base CX0 (k + 1) f fd ["_law_ds", "_law_at", "_law_deep"] (spPart K (n + 1)) := by
  refine F.ok scpart (fun vs H Q E h => ?_) (fun cdv A outer s H vs Q E hr h => ?_)
  · obtain ⟨a, ds, at_, d, rfl, _⟩ := h
    rfl
  obtain ⟨a, ds, at_, d, rfl, hd, hd3, hS, hl, hds, q⟩ := h
  refine ⟨_, (pss_cons (ps_set (i := 3) scpart.nd rfl (Or.inl rfl) (pe_op op_mod (pe_ix ix_list (pv 0) (pe_op op_mod (pv 1) (pe_callB call_len_seq (by rfl) G.len PySem.boot_len (pa_cons (pv 0) pa_nil))) (fun _ _ => rfl)) (pe_ix ix_list (pe_lst (pa_cons pe_int (pa_cons pe_int (pa_cons pe_int pa_nil)))) (pe_callB (call_min2 rfl) (by rfl) G.min boot_min (pa_cons (pv 2) (pa_cons pe_int pa_nil))) (fun _ _ => rfl)))) (pss_cons (ps_set (i := 4) scpart.nd rfl (Or.inl rfl) (pe_ix ix_list (pv 0) (pe_op op_mod (pe_op op_add (pv 1) pe_int) (pe_callB call_len_seq (by rfl) G.len PySem.boot_len (pa_cons (pv 0) pa_nil))) (fun _ _ => rfl))) (pss_cons (ps_if (pt_cmpR op_lt (pv 3) pe_int (nomark _)) (pss_one (ps_ret (pe_tup (pa_cons (pe_def D_law_leaf (hr.mono (by omega)) rfl (pa_cons (pv 3) (pa_cons (pv 4) pa_nil))) (pa_cons (pe_op op_add (pv 1) pe_int) pa_nil))))) pss_nil) (pss_cons (ps_if (pt_cmpR op_eq (pv 3) pe_int (nomark _)) (pss_cons (ps_asg (pe_def D_law_part (hr.mono (by omega)) rfl (pa_cons (pv 0) (pa_cons (pe_op op_add (pv 1) pe_int) (pa_cons (pe_op op_sub (pv 2) pe_int) pa_nil)))) (pg_tup rfl (pgs_cons (pg_name (i := 5) scpart.nd rfl (Or.inl rfl)) (pgs_cons (pg_name (i := 1) scpart.nd rfl (Or.inl rfl)) pgs_nil)))) (pss_one (ps_ret (pe_tup (pa_cons (pe_tup (pa_cons pe_str (pa_cons (pv 5) pa_nil))) (pa_cons (pv 1) pa_nil)))))) pss_nil) (pss_cons (ps_set (i := 1) scpart.nd rfl (Or.inl rfl) (pe_op op_add (pv 1) pe_int)) (pss_cons (ps_set (i := 6) scpart.nd rfl (Or.inl rfl) (pe_lst pa_nil)) (pss_cons (ps_for PassesOwn.never rfl (pi_range1 rfl G.range (pa_cons (pe_op op_mod (pv 4) (pe_ix ix_list (pe_lst (pa_cons pe_int (pa_cons pe_int (pa_cons pe_int (pa_cons pe_int pa_nil))))) (pe_callB (call_min2 rfl) (by rfl) G.min boot_min (pa_cons (pv 2) (pa_cons pe_int pa_nil))) (fun _ _ => rfl))) pa_nil)) (pg_name (i := 7) scpart.nd rfl (Or.inl rfl)) (pss_cons (ps_asg (pe_def D_law_part (hr.mono (by omega)) rfl (pa_cons (pv 0) (pa_cons (pv 1) (pa_cons (pe_op op_sub (pv 2) pe_int) pa_nil)))) (pg_tup rfl (pgs_cons (pg_name (i := 5) scpart.nd rfl (Or.inl rfl)) (pgs_cons (pg_name (i := 1) scpart.nd rfl (Or.inl rfl)) pgs_nil)))) (pss_one (ps_expr (pe_bm PySem.F.plainAttrs_list PySem.F.slot_list_append PySem.F.type_list_append mt_append (pv 6) (pa_cons (pv 5) pa_nil)))))) (pss_one (ps_ret (pe_tup (pa_cons (pe_tup (pa_cons (pe_ix ix_list (pe_lst (pa_cons pe_str (pa_cons pe_str pa_nil))) (pe_op op_mod (pv 3) pe_int) (fun _ _ => rfl)) (pa_cons (pe_callTy call_tuple_of (by rfl) G.tuple boot_tuple (pa_cons (pv 6) pa_nil)) pa_nil))) (pa_cons (pv 1) pa_nil)))))))))))), ?_⟩
  have hl' : (0 : Int) < ((ds.map V.int).length : Nat) := by rw [List.length_map]; omega
  have hix : ∀ z : Int, ∃ x, x ∈ ds ∧ atI (ds.map V.int) (z % ((ds.map V.int).length : Nat)) = some (.int x) := fun z => by
    obtain ⟨x, hx, e⟩ := atI_ints (xs := ds) (i := z % ((ds.map V.int).length : Nat)) (Int.emod_nonneg _ (by omega)) (by have := Int.emod_lt_of_pos z hl'; rw [List.length_map] at this ⊢; exact this)
    exact ⟨x, List.mem_of_getElem? hx, e⟩
  -- way
  obtain ⟨x1, hx1, e1⟩ := hix at_
  refine ⟨_, rfl, _, rfl, _, rfl, a, _, rfl, .inl hS, _, _, rfl, rfl, hl', a, _, _, _, rfl, rfl, hS, e1, ?_⟩
  refine ⟨by show 3 ≤ sizeLine; decide, fun l1 hl1 => ?_⟩
  have s1 : Same H (upd H l1 (.lst [.int 5, .int 8, .int 9])) := same_new hl1
  refine ⟨_, rfl, _, _, rfl, l1, _, _, _, rfl, rfl, SqL.of upd_same, wm_at hd3, _, _, rfl, rfl, (wm_pos d).1, ?_⟩
  -- number
  obtain ⟨x2, hx2, e2⟩ := hix (at_ + 1)
  refine ⟨_, rfl, _, rfl, _, _, rfl, rfl, _, rfl, a, _, rfl, .inl (s1.seq hS), _, _, rfl, rfl, hl', a, _, _, _, rfl, rfl, s1.seq hS, e2, ?_⟩
  have hx2' := hds x2 hx2
  have hw0 : 0 ≤ x1 % Wm d := Int.emod_nonneg _ (by have := wm_pos d; omega)
  have hw1 : x1 % Wm d < Wm d := Int.emod_lt_of_pos _ (wm_pos d).1
  -- if way < 5
  refine ⟨_, rfl, _, _, rfl, rfl, _, rfl, ?_⟩
  refine ite_b (fun c => ?_) (fun c => ?_)
  · have c := of_decide_eq_true c
    refine ⟨_, rfl, _, rfl, _, _, rfl, hw0, by omega, hx2', fun H1 v l s2 hv hlo => ?_⟩
    refine ⟨_, rfl, _, _, rfl, rfl, by show 2 ≤ sizeLine; decide, fun r hr' => ?_⟩
    exact q _ r v (.leaf l) _ ((s1.trans s2).trans (same_new hr')) upd_same (by rw [patD]; exact hv.same (same_new hr')) (pt_leaf hlo)
  have c := of_decide_eq_false c
  -- the depth is one more than another
  obtain ⟨d', rfl⟩ : ∃ d', d = d' + 1 := by
    cases d with
    | zero => simp only [Wm] at hw1 c; omega
    | succ d' => exact ⟨d', rfl⟩
  have hdd : (((d' + 1 : Nat) : Nat) : Int) - 1 = (d' : Nat) := by omega
  have hargs : ∀ z : Int, [V.ref a, V.int z, V.int ((((d' + 1 : Nat) : Nat) : Int) - 1)] = [V.ref a, V.int z, V.int (d' : Nat)] := fun z => by rw [hdd]
  refine ⟨_, rfl, rfl, _, rfl, ?_⟩
  refine ite_b (fun c7 => ?_) (fun c7 => ?_)
  · -- many
    refine ⟨_, rfl, _, rfl, _, _, rfl, rfl, _, rfl, _, _, rfl, rfl, ?_⟩
    refine ⟨a, ds, at_ + 1, d', hargs _, by omega, by omega, s1.seq hS, hl, hds, fun H1 r v p at' s2 hr1 hv hp => ?_⟩
    refine ⟨r, _, rfl, SqT.of hr1, rfl, _, _, rfl, _, _, rfl, rfl, ?_⟩
    refine ⟨_, rfl, by show 2 ≤ sizeLine; decide, fun t ht => ?_⟩
    refine ⟨_, rfl, by show 2 ≤ sizeLine; decide, fun r2 hr2 => ?_⟩
    exact q _ r2 _ (.many p) at' (((s1.trans s2).trans (same_new ht)).trans (same_new hr2)) upd_same (manyMk (SqT.of (by rw [upd_ne (fun e => by rw [← e, upd_same] at hr2; cases hr2), upd_same])) (hv.same ((same_new ht).trans (same_new hr2)))) (pt_many (by omega) hp)
  · refine ⟨_, rfl, _, _, rfl, rfl, ?_⟩
    refine ⟨by show 0 ≤ sizeLine; decide, fun lp hlp => ?_⟩
    have s2 : Same H (upd (upd H l1 (.lst [.int 5, .int 8, .int 9])) lp (.lst [])) := s1.trans (same_new hlp)
    have hlp0 : H lp = none := s1.free hlp
    -- range(number % [1, 3, 4, 3][min(deep, 3)])
    refine ⟨_, rfl, by show 4 ≤ sizeLine; decide, fun l2 hl2 => ?_⟩
    have n2p : lp ≠ l2 := fun e => by rw [← e, upd_same] at hl2; cases hl2
    have s3 := s2.trans (same_new (o := .lst [.int 1, .int 3, .int 4, .int 3]) hl2)
    refine ⟨_, rfl, _, _, rfl, l2, _, _, _, rfl, rfl, SqL.of upd_same, nm_at hd3, _, _, rfl, rfl, (nm_pos (d' + 1)).1, ?_⟩
    have hn0 : 0 ≤ x2 % Nm (d' + 1) := Int.emod_nonneg _ (by have := nm_pos (d' + 1); omega)
    have hn1 : x2 % Nm (d' + 1) < Nm (d' + 1) := Int.emod_lt_of_pos _ (nm_pos (d' + 1)).1
    have hn4 := (nm_pos (d' + 1)).2
    refine ⟨_, rfl, by show -(2 ^ 62 : Int) ≤ x2 % Nm (d' + 1); omega, by show x2 % Nm (d' + 1) < (2 ^ 62 : Int); omega, ?_⟩
    refine for_range (lo := 0) (n := (x2 % Nm (d' + 1)).toNat) (fun i σ H' => ∃ (at' : Int) (o5 o7 : Option V) (ps : List Pt) (vs : List V), σ = [some (.ref a), some (.int at'), some (.int ((d' + 1 : Nat) : Nat)), some (.int (x1 % Wm (d' + 1))), some (.int x2), o5, some (.ref lp), o7] ∧ Same H H' ∧ H' lp = some (.lst vs) ∧ DtAll K H' vs (ps.map patD) ∧ ps.length = i ∧ ∀ p ∈ ps, PtOk p (Fr d') (Ed d') (d' + 1))
      ⟨_, none, none, [], [], rfl, s3, by rw [upd_ne n2p, upd_same], .nil, rfl, fun p hp => by cases hp⟩ ?_ ?_
    · rintro i σ H' hi ⟨at', o5, o7, ps, vs, rfl, sm, hlst, hall, hlen, hps⟩
      refine ⟨_, rfl, _, rfl, _, rfl, _, _, rfl, rfl, ?_⟩
      refine ⟨a, ds, at', d', hargs _, by omega, by omega, sm.seq hS, hl, hds, fun H1 r v p at2 s4 hr1 hv hp => ?_⟩
      refine ⟨r, _, rfl, SqT.of hr1, rfl, _, _, rfl, _, _, rfl, rfl, ?_⟩
      have hl1' := s4 _ _ hlst
      refine ⟨_, rfl, .inl ⟨rfl, _, SqL.of hl1'⟩, _, rfl, lp, _, _, rfl, rfl, hl1', by rw [hall.mapLen]; exact line_lt (by omega), ?_⟩
      have kt : KeepT K H1 (upd H1 lp (.lst (vs ++ [v]))) := keepT_upd (fun xs e => by rw [hl1'] at e; cases e) (fun ob xs e => by rw [hl1'] at e; cases e)
      refine ⟨_, _, _, ps ++ [p], vs ++ [v], rfl, same_put (sm.trans s4) hlp0, upd_same, ?_, by rw [List.length_append, List.length_singleton, hlen], fun p' hp' => ?_⟩
      · rw [List.map_append]
        exact ((hall.same s4).keep kt).append (.cons (hv.keep kt) .nil)
      · rcases List.mem_append.mp hp' with z | z
        · exact hps p' z
        · rw [List.mem_singleton.mp z]; exact hp
    · rintro σ H' ⟨at', o5, o7, ps, vs, rfl, sm, hlst, hall, hlen, hps⟩
      have hpp := pt_parts (d := d') (c := (x2 % Nm (d' + 1)).toNat) (by omega) hps (by omega) (by omega)
      refine ⟨by show 2 ≤ sizeLine; decide, fun l3 hl3 => ?_⟩
      have s4 := same_new (o := .lst [.str "then", .str "either"]) hl3
      obtain ⟨sd, hsd, e3⟩ := atI_strs (xs := (["then", "either"] : List Str)) (i := (x1 % Wm (d' + 1)) % 2) (by omega) (by show (x1 % Wm (d' + 1)) % 2 < 2; omega)
      refine ⟨_, rfl, _, _, rfl, rfl, (by show (0 : Int) < 2; decide), l3, _, _, _, rfl, rfl, SqL.of upd_same, e3, ?_⟩
      refine ⟨_, rfl, lp, _, rfl, .inl ⟨SqL.of (s4 _ _ hlst), fun t ht => ?_⟩⟩
      have s5 := s4.trans (same_new (o := .tup vs) ht)
      refine ⟨by show 2 ≤ sizeLine; decide, fun t2 ht2 => ?_⟩
      have s6 := s5.trans (same_new (o := .tup [.str sd, .ref t]) ht2)
      refine ⟨_, rfl, by show 2 ≤ sizeLine; decide, fun r2 hr2 => ?_⟩
      have s7 := s6.trans (same_new (o := .tup [.ref t2, .int at']) hr2)
      have k1 : SqT K (upd (upd (upd (upd H' l3 (.lst [.str "then", .str "either"])) t (.tup vs)) t2 (.tup [.str sd, .ref t])) r2 (.tup [.ref t2, .int at'])) t2 [.str sd, .ref t] := SqT.of (same_new hr2 _ _ upd_same)
      have k2 : SqT K (upd (upd (upd (upd H' l3 (.lst [.str "then", .str "either"])) t (.tup vs)) t2 (.tup [.str sd, .ref t])) r2 (.tup [.ref t2, .int at'])) t vs := SqT.of (same_new hr2 _ _ (same_new ht2 _ _ upd_same))
      rcases List.mem_cons.mp hsd with rfl | hsd
      · exact q _ r2 _ (.thn ps) at' (sm.trans s7) upd_same (thnMk k1 k2 (hall.same s7)) hpp.1
      · have e5 := List.mem_singleton.mp hsd
        subst e5
        exact q _ r2 _ (.eit ps) at' (sm.trans s7) upd_same (eitMk k1 k2 (hall.same s7)) hpp.2
end
end PK
set_option Elab.async false
set_option linter.all false
set_option maxRecDepth 100000
set_option autoImplicit false
set_option maxHeartbeats 2000000
/-! The law's patterns: drawn ones, great ones. -/
namespace PK
open PySem PySem.Spec PyProof.Rows L2
section
variable {P : Program} {w : World} {K : PySem.W.Frag} {mg : Str → Option Value} {base : Heap}

abbrev spattern : Stmt := top 31
abbrev Nscpattern : List Str := ["_law_cell", "_law_deep"]
theorem scpattern : FnScope Nscpattern ["_law_cell", "_law_deep"] (defScope spattern) := ⟨rfl, rfl, rfl, by decide +kernel, rfl, by decide +kernel, by decide +kernel⟩
def spPattern (K : PySem.W.Frag) : Sp := fun vs H Q _ => ∃ (c : Int), vs = [.int c, .int 3] ∧ ∀ (H' : Hp) (v : V) (p : Pt), Same H H' → Dt K H' v (patD p) → PtOk p 38 39 10 → Q v H'
theorem ok_pattern {f : Addr} {fd : FuncData} (F : Fun K "_law_pattern" "_law_pattern" spattern f fd) (D_law_draws : Def P w K mg base 1 "_law_draws" ["_law_cell", "_law_sizes"] (spDraws K))
    (D_law_part : Def P w K mg base 6 "_law_part" ["_law_ds", "_law_at", "_law_deep"] (spPart K 4)) : FnOk P w K mg base CX0 7 f fd ["_law_cell", "_law_deep"] (spPattern K) := by
  refine F.ok scpattern (fun vs H Q E h => ?_) (fun cdv A outer s H vs Q E hr h => ?_)
  · obtain ⟨c, rfl, _⟩ := h
    rfl
  obtain ⟨c, rfl, q⟩ := h
  refine ⟨_, (pss_one (ps_ret (pe_ix ix_tup (pe_def D_law_part (hr.mono (by omega)) rfl (pa_cons (pe_def D_law_draws (hr.mono (by omega)) rfl (pa_cons (pv 0) (pa_cons (pe_op op_rep (pe_lst (pa_cons pe_int pa_nil)) pe_int) pa_nil))) (pa_cons pe_int (pa_cons (pv 1) pa_nil)))) pe_int (fun _ _ => rfl)))), ?_⟩
  refine ⟨_, rfl, by show 1 ≤ sizeLine; decide, fun l hl => ?_⟩
  refine ⟨l, _, _, rfl, rfl, upd_same, by decide, by decide, by show 1 * 50 ≤ sizeLine; decide, fun l2 hl2 => ?_⟩
  have s2 := (same_new (o := .lst [.int 720]) hl).trans (same_new (o := .lst ((List.replicate 50 (720 : Int)).map V.int)) hl2)
  refine ⟨c, l2, List.replicate 50 720, rfl, SqL.of upd_same, by rw [List.length_replicate]; omega, fun n hn => ?_, fun H1 r ds s3 hr1 hlen hds => ?_⟩
  · rw [(List.mem_replicate.mp hn).2]
    omega
  rw [List.length_replicate] at hlen
  refine ⟨_, rfl, r, ds, 0, 3, rfl, by decide, by decide, SqL.of hr1, by omega, fun x hx => ?_, fun H2 r2 v p at' s4 hr2 hv hp => ?_⟩
  · obtain ⟨i, hi, e⟩ := List.getElem_of_mem hx
    exact (hds i x 720 (by rw [List.getElem?_eq_getElem hi, e]) (by rw [List.getElem?_replicate, if_pos (by omega)])).1
  · refine ⟨r2, _, 0, _, rfl, rfl, SqT.of hr2, at0, ?_⟩
    exact q H2 v p ((s2.trans s3).trans s4) hv ⟨hp.lo, Nat.le_trans hp.fr (by decide), Nat.le_trans hp.ed (by decide), Nat.le_trans hp.dp (by decide)⟩

abbrev sgreat : Stmt := top 42
abbrev Nscgreat : List Str := ["_law_cell", "_law_ds", "_law_leaf_here", "_law_k", "_law_other", "_law_parts"]
theorem scgreat : FnScope Nscgreat ["_law_cell"] (defScope sgreat) := ⟨rfl, rfl, rfl, by decide +kernel, rfl, by decide +kernel, by decide +kernel⟩
def spGreat (K : PySem.W.Frag) : Sp := fun vs H Q _ => ∃ (c : Int), vs = [.int c] ∧ ∀ (H' : Hp) (v : V) (p : Pt), Same H H' → Dt K H' v (patD p) → PtOk p 38 39 10 → Q v H'
theorem ok_great {f : Addr} {fd : FuncData} (F : Fun K "_law_great" "_law_great" sgreat f fd) (G : Gs K mg) (D_law_draws : Def P w K mg base 1 "_law_draws" ["_law_cell", "_law_sizes"] (spDraws K))
    (D_law_leaf : Def P w K mg base 2 "_law_leaf" ["_law_way", "_law_number"] (spLeaf K)) : FnOk P w K mg base CX0 3 f fd ["_law_cell"] (spGreat K) := by
  refine F.ok scgreat (fun vs H Q E h => ?_) (fun cdv A outer s H vs Q E hr h => ?_)
  · obtain ⟨c, rfl, _⟩ := h
    rfl
  obtain ⟨c, rfl, q⟩ := h
  refine ⟨_, (pss_cons (ps_set (i := 1) scgreat.nd rfl (Or.inl rfl) (pe_def D_law_draws (hr.mono (by omega)) rfl (pa_cons (pv 0) (pa_cons (pe_lst (pa_cons pe_int (pa_cons pe_int (pa_cons pe_int (pa_cons pe_int (pa_cons pe_int (pa_cons pe_int pa_nil))))))) pa_nil)))) (pss_cons (ps_set (i := 2) scgreat.nd rfl (Or.inl rfl) (pe_def D_law_leaf (hr.mono (by omega)) rfl (pa_cons (pe_ix ix_list (pv 1) pe_int (fun _ _ => rfl)) (pa_cons (pe_ix ix_list (pv 1) pe_int (fun _ _ => rfl)) pa_nil)))) (pss_cons (ps_if (pt_cmpR op_eq (pe_ix ix_list (pv 1) pe_int (fun _ _ => rfl)) pe_int (nomark _)) (pss_cons (ps_for PassesOwn.never rfl (pi_range1 rfl G.range (pa_cons pe_int pa_nil)) (pg_name (i := 3) scgreat.nd rfl (Or.inl rfl)) (pss_cons (ps_set (i := 4) scgreat.nd rfl (Or.inl rfl) (pe_tup (pa_cons pe_str (pa_cons (pe_tup (pa_cons (pv 2) (pa_cons (pe_def D_law_leaf (hr.mono (by omega)) rfl (pa_cons (pe_ix ix_list (pv 1) pe_int (fun _ _ => rfl)) (pa_cons (pe_ix ix_list (pv 1) pe_int (fun _ _ => rfl)) pa_nil))) pa_nil))) pa_nil)))) (pss_one (ps_set (i := 2) scgreat.nd rfl (Or.inl rfl) (pe_ix ix_list (pe_lst (pa_cons (pe_tup (pa_cons pe_str (pa_cons (pv 2) pa_nil))) (pa_cons (pe_tup (pa_cons pe_str (pa_cons (pe_tup (pa_cons (pv 2) pa_nil)) pa_nil))) (pa_cons (pv 4) pa_nil)))) (pe_op op_mod (pe_op op_add (pe_ix ix_list (pv 1) pe_int (fun _ _ => rfl)) (pe_op op_mul (pv 3) (pe_ix ix_list (pv 1) pe_int (fun _ _ => rfl)))) pe_int) (fun _ _ => rfl)))))) (pss_one (ps_ret (pv 2)))) pss_nil) (pss_cons (ps_set (i := 5) scgreat.nd rfl (Or.inl rfl) (pe_op op_rep (pe_lst (pa_cons (pv 2) pa_nil)) pe_int)) (pss_cons (ps_asg (pe_def D_law_leaf (hr.mono (by omega)) rfl (pa_cons (pe_ix ix_list (pv 1) pe_int (fun _ _ => rfl)) (pa_cons (pe_ix ix_list (pv 1) pe_int (fun _ _ => rfl)) pa_nil))) (pg_sub (pv 5) (pe_ix ix_list (pv 1) pe_int (fun _ _ => rfl)) set_list)) (pss_one (ps_ret (pe_tup (pa_cons (pe_ix ix_list (pe_lst (pa_cons pe_str (pa_cons pe_str pa_nil))) (pe_op op_sub (pe_ix ix_list (pv 1) pe_int (fun _ _ => rfl)) pe_int) (fun _ _ => rfl)) (pa_cons (pe_callTy call_tuple_of (by rfl) G.tuple boot_tuple (pa_cons (pv 5) pa_nil)) pa_nil)))))))))), ?_⟩
  -- the draws
  refine ⟨_, rfl, by show 6 ≤ sizeLine; decide, fun l hl => ?_⟩
  have s1 := same_new (o := .lst (([3, 5, 720, 5, 720, 39] : List Int).map V.int)) hl
  refine ⟨c, l, [3, 5, 720, 5, 720, 39], rfl, SqL.of upd_same, by decide, by decide, fun H1 r ds s2 hr1 hlen hds => ?_⟩
  obtain ⟨d0, d1, d2, d3, d4, d5, rfl⟩ : ∃ d0 d1 d2 d3 d4 d5, ds = [d0, d1, d2, d3, d4, d5] := by
    match ds, hlen with
    | [a, b, c, d, e, f], _ => exact ⟨a, b, c, d, e, f, rfl⟩
  have b0 := hds 0 d0 3 rfl rfl
  have b1 := hds 1 d1 5 rfl rfl
  have b2 := hds 2 d2 720 rfl rfl
  have b3 := hds 3 d3 5 rfl rfl
  have b4 := hds 4 d4 720 rfl rfl
  have b5 := hds 5 d5 39 rfl rfl
  have i0 : atI (([d0, d1, d2, d3, d4, d5] : List Int).map V.int) 0 = some (.int d0) := atI_nat (j := 0) rfl
  have i1 : atI (([d0, d1, d2, d3, d4, d5] : List Int).map V.int) 1 = some (.int d1) := atI_nat (j := 1) rfl
  have i2 : atI (([d0, d1, d2, d3, d4, d5] : List Int).map V.int) 2 = some (.int d2) := atI_nat (j := 2) rfl
  have i3 : atI (([d0, d1, d2, d3, d4, d5] : List Int).map V.int) 3 = some (.int d3) := atI_nat (j := 3) rfl
  have i4 : atI (([d0, d1, d2, d3, d4, d5] : List Int).map V.int) 4 = some (.int d4) := atI_nat (j := 4) rfl
  have i5 : atI (([d0, d1, d2, d3, d4, d5] : List Int).map V.int) 5 = some (.int d5) := atI_nat (j := 5) rfl
  have s12 := s1.trans s2
  -- the leaf
  refine ⟨_, rfl, r, _, _, _, rfl, rfl, SqL.of hr1, i1, _, rfl, r, _, _, _, rfl, rfl, SqL.of hr1, i2, ?_⟩
  refine ⟨d1, d2, rfl, by omega, by omega, by omega, fun H2 lv l1 s3 hlv hl1 => ?_⟩
  have hr2 := s3 _ _ hr1
  have s13 := s12.trans s3
  refine ⟨_, rfl, r, _, _, _, rfl, rfl, SqL.of hr2, i0, rfl, _, rfl, ?_⟩
  refine ite_b (fun c0 => ?_) (fun c0 => ?_)
  · -- nine within one another
    refine ⟨9, rfl, by decide, by decide, ?_⟩
    refine for_range (lo := 0) (n := 9) (fun i σ H' => ∃ (o3 o4 : Option V) (v : V) (p : Pt), σ = [some (.int c), some (.ref r), some v, o3, o4, none] ∧ Same H H' ∧ Same H2 H' ∧ Dt K H' v (patD p) ∧ PtOk p i (2 * i + 1) (i + 1))
      ⟨none, none, lv, .leaf l1, rfl, s13, Same.refl _, by rw [patD]; exact hlv, ⟨by simp only [LOk]; exact hl1, by simp only [frs]; omega, by simp only [eds]; omega, by simp only [dps]; omega⟩⟩ ?_ ?_
    · rintro i σ H' hi ⟨o3, o4, v, p, rfl, sm, sm2, hv, hp⟩
      have hr3 := sm2 _ _ hr2
      refine ⟨_, rfl, _, rfl, r, _, _, _, rfl, rfl, SqL.of hr3, i3, _, rfl, r, _, _, _, rfl, rfl, SqL.of hr3, i4, ?_⟩
      refine ⟨d3, d4, rfl, by omega, by omega, by omega, fun H3 ov l2 s4 hov hl2 => ?_⟩
      refine ⟨by show 2 ≤ sizeLine; decide, fun t1 ht1 => ?_⟩
      have s5 := s4.trans (same_new (o := .tup [v, ov]) ht1)
      refine ⟨by show 2 ≤ sizeLine; decide, fun t2 ht2 => ?_⟩
      have s6 := s5.trans (same_new (o := .tup [.str "either", .ref t1]) ht2)
      -- the three
      refine ⟨_, rfl, by show 2 ≤ sizeLine; decide, fun t3 ht3 => ?_⟩
      have s7 := s6.trans (same_new (o := .tup [.str "many", v]) ht3)
      refine ⟨_, rfl, by show 1 ≤ sizeLine; decide, fun t4 ht4 => ?_⟩
      have s8 := s7.trans (same_new (o := .tup [v]) ht4)
      refine ⟨by show 2 ≤ sizeLine; decide, fun t5 ht5 => ?_⟩
      have s9 := s8.trans (same_new (o := .tup [.str "then", .ref t4]) ht5)
      refine ⟨_, rfl, by show 3 ≤ sizeLine; decide, fun t6 ht6 => ?_⟩
      have s10 := s9.trans (same_new (o := .lst [.ref t3, .ref t5, .ref t2]) ht6)
      have f1 := same_new (o := .lst [.ref t3, .ref t5, .ref t2]) ht6
      have f2 := (same_new (o := .tup [.str "then", .ref t4]) ht5).trans f1
      have f3 := (same_new (o := .tup [v]) ht4).trans f2
      have f4 := (same_new (o := .tup [.str "many", v]) ht3).trans f3
      have f5 := (same_new (o := .tup [.str "either", .ref t1]) ht2).trans f4
      have hr10 := s10 _ _ hr3
      refine ⟨_, rfl, r, _, _, _, rfl, rfl, SqL.of hr10, i2, _, rfl, _, rfl, r, _, _, _, rfl, rfl, SqL.of hr10, i4, _, _, rfl, rfl, .inl ⟨by omega, by omega⟩, _, _, rfl, rfl, _, _, rfl, rfl, (by show (0 : Int) < 3; decide), ?_⟩
      have pick : ∀ Hx, Dt K Hx v (patD p) → Dt K Hx ov (leafD l2) → Hx t3 = some (.tup [.str "many", v]) → Hx t4 = some (.tup [v]) → Hx t5 = some (.tup [.str "then", .ref t4]) → Hx t1 = some (.tup [v, ov]) → Hx t2 = some (.tup [.str "either", .ref t1]) →
          ∃ (v' : V) (p' : Pt), atI [V.ref t3, V.ref t5, V.ref t2] ((d2 + (0 + (i : Nat)) * d4) % 3) = some v' ∧ Dt K Hx v' (patD p') ∧ PtOk p' (i + 1) (2 * (i + 1) + 1) (i + 1 + 1) := fun Hx hv' ho' g3 g4 g5 g1 g2 => by
        generalize hz : (d2 + (0 + (i : Nat)) * d4) % 3 = z
        have hz0 : 0 ≤ z ∧ z < 3 := by omega
        rcases (by omega : z = 0 ∨ z = 1 ∨ z = 2) with rfl | rfl | rfl
        · exact ⟨_, .many p, at0, manyMk (SqT.of g3) hv', ⟨by simp only [LOk]; exact hp.lo, by simp only [frs]; have := hp.fr; omega, by simp only [eds]; have := hp.ed; omega, by simp only [dps]; have := hp.dp; omega⟩⟩
        · exact ⟨_, .thn [p], at1, thnMk (SqT.of g5) (SqT.of g4) (.cons hv' .nil), ⟨by simp only [LOk, LOkAll]; exact ⟨hp.lo, trivial⟩, by simp only [frs, frsAll, List.length_singleton]; have := hp.fr; omega, by simp only [eds, edsAll, List.isEmpty_cons]; have := hp.ed; simp; omega, by simp only [dps, dpsAll]; have := hp.dp; omega⟩⟩
        · exact ⟨_, .eit [p, .leaf l2], at2, eitMk (SqT.of g2) (SqT.of g1) (.cons hv' (.cons (by rw [patD]; exact ho') .nil)), ⟨by simp only [LOk, LOkAll]; exact ⟨hp.lo, hl2, trivial⟩, by simp only [frs, frsAll]; have := hp.fr; omega, by simp only [eds, edsAll]; have := hp.ed; omega, by simp only [dps, dpsAll]; have := hp.dp; omega⟩⟩
      obtain ⟨v', p', e1, e2, e3⟩ := pick _ (hv.same s10) (hov.same ((same_new (o := .tup [v, ov]) ht1).trans f5)) (f3 _ _ upd_same) (f2 _ _ upd_same) (f1 _ _ upd_same) (f5 _ _ upd_same) (f4 _ _ upd_same)
      exact ⟨t6, _, _, _, rfl, rfl, SqL.of upd_same, e1, _, _, v', p', rfl, sm.trans s10, sm2.trans s10, e2, e3⟩
    · rintro σ H' ⟨o3, o4, v, p, rfl, sm, sm2, hv, hp⟩
      exact ⟨_, rfl, q H' v p sm hv ⟨hp.lo, Nat.le_trans hp.fr (by decide), Nat.le_trans hp.ed (by decide), hp.dp⟩⟩
  · have c0 : d0 ≠ 0 := fun z => by rw [z] at c0; exact absurd c0 (by decide)
    -- 39 side by side
    refine ⟨_, rfl, by show 1 ≤ sizeLine; decide, fun t1 ht1 => ?_⟩
    refine ⟨t1, _, _, rfl, rfl, upd_same, by decide, by decide, by show 1 * 39 ≤ sizeLine; decide, fun t2 ht2 => ?_⟩
    have s4 := (same_new (o := .lst [lv]) ht1).trans (same_new (o := .lst (List.replicate 39 lv)) ht2)
    have e39 : (List.replicate ((39 : Int).toNat) [lv]).flatten = List.replicate 39 lv := rfl
    have ht20 : H2 t2 = none := (same_new (o := .lst [lv]) ht1).free ht2
    have hr3 := s4 _ _ hr2
    refine ⟨_, rfl, r, _, _, _, rfl, rfl, SqL.of hr3, i3, _, rfl, r, _, _, _, rfl, rfl, SqL.of hr3, i4, ?_⟩
    refine ⟨d3, d4, rfl, by omega, by omega, by omega, fun H3 ov l2 s5 hov hl2 => ?_⟩
    have ht3 : H3 t2 = some (.lst (List.replicate 39 lv)) := s5 _ _ upd_same
    have hr4 := s5 _ _ hr3
    refine ⟨_, rfl, _, rfl, r, _, _, _, rfl, rfl, SqL.of hr4, i5, t2, _, _, d5.toNat, rfl, rfl, ht3, ?_, ?_⟩
    · unfold ixN
      rw [List.length_replicate, if_pos b5.1, if_pos (by omega)]
    have kt : KeepT K H3 (upd H3 t2 (.lst ((List.replicate 39 lv).set d5.toNat ov))) := keepT_upd (fun xs e => by rw [ht3] at e; cases e) (fun ob xs e => by rw [ht3] at e; cases e)
    have sm3 : Same H2 (upd H3 t2 (.lst ((List.replicate 39 lv).set d5.toNat ov))) := same_put (s4.trans s5) ht20
    have hall : DtAll K (upd H3 t2 (.lst ((List.replicate 39 lv).set d5.toNat ov))) ((List.replicate 39 lv).set d5.toNat ov) ((((List.replicate 39 (Pat.leaf l1)).set d5.toNat (.leaf l2)) : List Pt).map patD) := by
      refine DtAll.of (by simp) fun i v d hv hd => ?_
      rw [List.getElem?_map, List.getElem?_set] at hd
      rw [List.getElem?_set] at hv
      by_cases e : d5.toNat = i
      · rw [if_pos e] at hv hd
        by_cases hb : d5.toNat < 39
        · rw [List.length_replicate, if_pos hb] at hv hd
          cases hv
          cases hd
          rw [patD]
          exact hov.keep kt
        · rw [List.length_replicate, if_neg hb] at hv
          cases hv
      · rw [if_neg e] at hv hd
        rw [List.getElem?_replicate] at hv hd
        by_cases hb : i < 39
        · rw [if_pos hb] at hv hd
          cases hv
          cases hd
          rw [patD]
          exact hlv.same sm3
        · rw [if_neg hb] at hv
          cases hv
    have hps : ∀ p ∈ ((List.replicate 39 (Pat.leaf l1)).set d5.toNat (.leaf l2) : List Pt), ∃ l, p = .leaf l ∧ LeafOk l := fun p hp => by
      rcases List.mem_or_eq_of_mem_set hp with h | h
      · exact ⟨l1, (List.mem_replicate.mp h).2, hl1⟩
      · exact ⟨l2, h, hl2⟩
    have hlen39 : ((List.replicate 39 (Pat.leaf l1)).set d5.toNat (.leaf l2) : List Pt).length = 39 := by simp
    generalize ((List.replicate 39 (Pat.leaf l1)).set d5.toNat (.leaf l2) : List Pt) = ps at hall hps hlen39
    have q1 := frsAll_le (n := 0) (ps := ps) fun p hp => by obtain ⟨l, rfl, _⟩ := hps p hp; simp [frs]
    have q2 := edsAll_le (n := 1) (ps := ps) fun p hp => by obtain ⟨l, rfl, _⟩ := hps p hp; simp [eds]
    have q3 := dpsAll_le (n := 1) (ps := ps) fun p hp => by obtain ⟨l, rfl, _⟩ := hps p hp; simp [dps]
    have q4 : LOkAll ps := LOkAll.of fun p hp => by obtain ⟨l, rfl, h⟩ := hps p hp; simp only [LOk]; exact h
    have okT : PtOk (.thn ps) 38 39 10 := ⟨by simp only [LOk]; exact q4, by simp only [frs]; omega, by simp only [eds]; split <;> omega, by simp only [dps]; omega⟩
    have okE : PtOk (.eit ps) 38 39 10 := ⟨by simp only [LOk]; exact q4, by simp only [frs]; omega, by simp only [eds]; omega, by simp only [dps]; omega⟩
    have ht4 : upd H3 t2 (.lst ((List.replicate 39 lv).set d5.toNat ov)) t2 = some (.lst ((List.replicate 39 lv).set d5.toNat ov)) := upd_same
    have hr5 := sm3 _ _ hr2
    refine ⟨by show 2 ≤ sizeLine; decide, fun l3 hl3 => ?_⟩
    have s6 := same_new (o := .lst [.str "then", .str "either"]) hl3
    obtain ⟨sd, hsd, e3⟩ := atI_strs (xs := (["then", "either"] : List Str)) (i := d0 - 1) (by omega) (by show d0 - 1 < 2; omega)
    refine ⟨_, rfl, r, _, _, _, rfl, rfl, SqL.of (s6 _ _ hr5), i0, _, _, rfl, rfl, l3, _, _, _, rfl, rfl, SqL.of upd_same, e3, ?_⟩
    refine ⟨_, rfl, t2, _, rfl, .inl ⟨SqL.of (s6 _ _ ht4), fun u hu => ?_⟩⟩
    have s7 := s6.trans (same_new (o := .tup ((List.replicate 39 lv).set d5.toNat ov)) hu)
    refine ⟨by show 2 ≤ sizeLine; decide, fun u2 hu2 => ?_⟩
    have s8 := s7.trans (same_new (o := .tup [.str sd, .ref u]) hu2)
    have k2 := same_new (o := .tup [.str sd, .ref u]) hu2 u (.tup ((List.replicate 39 lv).set d5.toNat ov)) upd_same
    rcases List.mem_cons.mp hsd with rfl | hsd
    · exact q _ _ (.thn ps) ((s13.trans sm3).trans s8) (thnMk (SqT.of upd_same) (SqT.of k2) (hall.same s8)) okT
    · have e5 := List.mem_singleton.mp hsd
      subst e5
      exact q _ _ (.eit ps) ((s13.trans sm3).trans s8) (eitMk (SqT.of upd_same) (SqT.of k2) (hall.same s8)) okE
end
end PK
set_option Elab.async false
set_option linter.all false
set_option maxRecDepth 100000
set_option autoImplicit false
set_option maxHeartbeats 2000000
/-! The law's own walk of a machine: by, still, gone. -/
namespace PK
open PySem PySem.Spec PyProof.Rows L2
theorem intsV_at {ss : List Nat} {i : Nat} {x : V} (hi : (intsV ss)[i]? = some x) : ∃ z, ss[i]? = some z ∧ x = V.int (z : Nat) := by
  rw [List.getElem?_map] at hi
  cases e : ss[i]? with
  | none => rw [e] at hi; cases hi
  | some z => rw [e] at hi; exact ⟨z, rfl, (Option.some.inj hi).symm⟩
section
variable {P : Program} {w : World} {K : PySem.W.Frag} {mg : Str → Option Value} {base : Heap}

abbrev sby : Stmt := top 35
abbrev Nscby : List Str := ["_law_machine", "_law_stands", "_law_side", "_law_word", "_law_found", "_law_one", "_law_leaf_here", "_law_other"]
theorem scby : FnScope Nscby ["_law_machine", "_law_stands", "_law_side", "_law_word"] (defScope sby) := ⟨rfl, rfl, rfl, by decide +kernel, rfl, by decide +kernel, by decide +kernel⟩
def spBy (K : PySem.W.Frag) : Sp := fun vs H Q _ => ∃ (mv : V) (st : Addr) (n : Nat) (ms : List Mv) (ss : List Nat) (side word : Str), vs = [mv, .ref st, .str side, .str word] ∧ Dt K H mv (machD n ms) ∧ SqL K H st (intsV ss) ∧ MvOk ms ∧
  ∀ (H' : Hp) (r : Addr) (zs : List Nat), Same H H' → H' r = some (.lst (intsV zs)) → zs.Nodup → (∀ z, z ∈ zs ↔ ∃ e ∈ ms, e.1 ∈ ss ∧ stepB e.2.1 side word = true ∧ e.2.2 = z) → Q (.ref r) H'
theorem ok_by {f : Addr} {fd : FuncData} (F : Fun K "_law_by" "_law_by" sby f fd) : FnOk P w K mg base CX0 1 f fd ["_law_machine", "_law_stands", "_law_side", "_law_word"] (spBy K) := by
  refine F.ok scby (fun vs H Q E h => ?_) (fun cdv A outer s H vs Q E hr h => ?_)
  · obtain ⟨mv, st, n, ms, ss, side, word, rfl, _⟩ := h
    rfl
  obtain ⟨mv, st, n, ms, ss, side, word, rfl, hM, hS, hok, q⟩ := h
  refine ⟨_, (pss_cons (ps_set (i := 4) scby.nd rfl (Or.inl rfl) (pe_lst pa_nil)) (pss_cons (ps_for PassesOwn.never rfl (pi_tup (pe_ix ix_tup (pv 0) pe_int (fun _ _ => rfl))) (pg_tup rfl (pgs_cons (pg_name (i := 5) scby.nd rfl (Or.inl rfl)) (pgs_cons (pg_name (i := 6) scby.nd rfl (Or.inl rfl)) (pgs_cons (pg_name (i := 7) scby.nd rfl (Or.inl rfl)) pgs_nil)))) (pss_one (ps_if (PW.pt (pw_and (pt_cmpR op_in_seq (pv 5) (pv 1) (by with_unfolding_all rfl)) (pw_and (pt_cmpR op_eq (pe_ix ix_tup (pv 6) pe_int (fun _ _ => rfl)) pe_str (nomark _)) (pw_and (pt_cmpR op_eq (pe_ix ix_tup (pv 6) pe_int (fun _ _ => rfl)) (pv 2) (nomark _)) (pw_and1 (pt_cmpR op_in_seq (pe_ix ix_tup (pv 6) pe_int (fun _ _ => rfl)) (pe_tup (pa_cons pe_str (pa_cons (pv 3) pa_nil))) (by with_unfolding_all rfl))))))) (pss_one (ps_if (pt_cmpR op_notIn_seq (pv 7) (pv 4) (by with_unfolding_all rfl)) (pss_one (ps_expr (pe_bm PySem.F.plainAttrs_list PySem.F.slot_list_append PySem.F.type_list_append mt_append (pv 4) (pa_cons (pv 7) pa_nil)))) pss_nil)) pss_nil))) (pss_one (ps_ret (pv 4))))), ?_⟩
  obtain ⟨a, ea, ma, mvs, rfl, h1, h2, h3, h4⟩ := machI hM
  refine ⟨by show 0 ≤ sizeLine; decide, fun r hr0 => ?_⟩
  have s0 : Same H (upd H r (.lst [])) := same_new hr0
  refine ⟨_, rfl, a, _, 3, _, rfl, rfl, same_seqT s0 h1, at3, ma, rfl, ⟨_, same_seqT s0 h3⟩, ?_⟩
  refine for_tup (xs := mvs) (fun i σ H' => ∃ (o5 o6 o7 : Option V) (ks : List Nat), σ = [some (.ref a), some (.ref st), some (.str side), some (.str word), some (.ref r), o5, o6, o7] ∧ Same H H' ∧ H' r = some (.lst (intsV ks)) ∧ ks.Nodup ∧ ks.length ≤ i ∧
      ∀ z, z ∈ ks ↔ ∃ e ∈ ms.take i, e.1 ∈ ss ∧ stepB e.2.1 side word = true ∧ e.2.2 = z)
    ⟨none, none, none, [], rfl, s0, upd_same, List.nodup_nil, Nat.le_refl _, fun z => by simp⟩ ?_ ?_ ?_
  · rintro i σ H' _ ⟨_, _, _, _, _, sm, _⟩
    exact same_seqT sm h3
  · rintro i x σ H' hi ⟨o5, o6, o7, ks, rfl, sm, hmt, hnd, hlen, hks⟩
    obtain ⟨e, he, hx⟩ := h4.mapGet hi
    obtain ⟨b, lv, rfl, h5, h6⟩ := mvI hx
    obtain ⟨la, rfl, h7⟩ := leafI h6
    have hi' : i < ms.length := (List.getElem?_eq_some_iff.mp he).1
    have htk : ms.take (i + 1) = ms.take i ++ [e] := by rw [List.take_add_one, he]; rfl
    have skip : ¬ (e.1 ∈ ss ∧ stepB e.2.1 side word = true) → ∀ H1, Same H' H1 → ∃ (o5 o6 o7 : Option V) (ks : List Nat), [some (.ref a), some (.ref st), some (.str side), some (.str word), some (.ref r), some (V.int (e.1 : Nat)), some (.ref la), some (V.int (e.2.2 : Nat))] = [some (.ref a), some (.ref st), some (.str side), some (.str word), some (.ref r), o5, o6, o7] ∧ Same H H1 ∧ H1 r = some (.lst (intsV ks)) ∧ ks.Nodup ∧ ks.length ≤ i + 1 ∧
        ∀ z, z ∈ ks ↔ ∃ e ∈ ms.take (i + 1), e.1 ∈ ss ∧ stepB e.2.1 side word = true ∧ e.2.2 = z := fun hn H1 s1 => by
      refine ⟨_, _, _, ks, rfl, sm.trans s1, s1 _ _ hmt, hnd, by omega, fun z => ?_⟩
      rw [hks z, htk]
      constructor
      · rintro ⟨e', he', r⟩
        exact ⟨e', List.mem_append_left _ he', r⟩
      · rintro ⟨e', he', r⟩
        rcases List.mem_append.mp he' with z1 | z1
        · exact ⟨e', z1, r⟩
        · rw [List.mem_singleton.mp z1] at r
          exact absurd ⟨r.1, r.2.1⟩ hn
    refine ⟨b, _, rfl, same_seqT sm h5, rfl, _, _, rfl, _, _, rfl, _, _, rfl, rfl, ?_⟩
    -- one in stands
    refine ⟨_, rfl, _, rfl, st, _, rfl, .inl (sm.seq hS), rfl, flat_intsV ss, _, rfl, ?_⟩
    rw [if_neg Bool.false_ne_true, inV_nat]
    refine ite_b (fun c => ?_) (fun c => iteF (skip (fun z => of_decide_eq_false c z.1) H' (Same.refl _)))
    have c := of_decide_eq_true c
    have hT := same_seqT sm h7
    obtain ⟨e1, l, e2⟩ := e
    rcases l with _ | ⟨s', w'⟩ | m' | m'
    · refine ⟨_, rfl, la, _, 0, _, rfl, rfl, hT, at0, rfl, _, rfl, ite_f (by decide +kernel) (iteF ?_)⟩
      exact skip (fun z => by have := z.2; cases this) H' (Same.refl _)
    · refine ⟨_, rfl, la, _, 0, _, rfl, rfl, hT, at0, rfl, _, rfl, ite_t (by decide +kernel) ?_⟩
      refine ⟨_, rfl, la, _, 1, _, rfl, rfl, hT, at1, _, rfl, rfl, _, rfl, ?_⟩
      rw [decV]
      refine ite_b (fun c2 => ?_) (fun c2 => iteF (skip (fun z => ?_) H' (Same.refl _)))
      · -- leaf[2] in ("*", word)
        refine ⟨_, rfl, la, _, 2, _, rfl, rfl, hT, at2, _, rfl, by show 2 ≤ sizeLine; decide, fun t ht => ?_⟩
        have s1 := same_new (o := .tup [.str "*", .str word]) ht
        refine ⟨t, _, rfl, .inr (SqT.of upd_same), rfl, rfl, _, rfl, ?_⟩
        rw [if_neg Bool.false_ne_true]
        have eb : inV (.str w') [.str "*", .str word] = stepB (.step s' w') side word := by
          show (("*" == w') || ((word == w') || false)) = (s' == side && (w' == "*" || w' == word))
          rw [c2, Bool.or_false, Bool.true_and, BEq.comm (a := w') (b := "*"), BEq.comm (a := w') (b := word)]
        rw [eb]
        refine ite_b (fun c3 => ?_) (fun c3 => skip (fun z => by rw [z.2] at c3; cases c3) _ s1)
        -- other not in found
        have hmt1 := s1 _ _ hmt
        refine ⟨_, rfl, _, rfl, r, _, rfl, .inl (SqL.of hmt1), rfl, flat_intsV ks, _, rfl, ?_⟩
        rw [if_pos rfl, inV_nat]
        have htake : ∀ z, z ∈ insS ks e2 ↔ ∃ e ∈ ms.take (i + 1), e.1 ∈ ss ∧ stepB e.2.1 side word = true ∧ e.2.2 = z := fun z => by
          rw [mem_insS, hks z, htk]
          constructor
          · rintro (⟨e', he', r⟩ | rfl)
            · exact ⟨e', List.mem_append_left _ he', r⟩
            · exact ⟨_, List.mem_append_right _ (List.mem_singleton.mpr rfl), c, c3, rfl⟩
          · rintro ⟨e', he', r⟩
            rcases List.mem_append.mp he' with z1 | z1
            · exact .inl ⟨e', z1, r⟩
            · rw [List.mem_singleton.mp z1] at r
              exact .inr r.2.2.symm
        refine ite_b (fun c4 => ?_) (fun c4 => ?_)
        · have c4 : e2 ∉ ks := fun z => by rw [decide_eq_true z] at c4; cases c4
          refine ⟨_, rfl, .inl ⟨rfl, _, SqL.of hmt1⟩, _, rfl, r, _, _, rfl, rfl, hmt1, by rw [List.length_map]; exact line_lt (by have := hok.1; omega), ?_⟩
          refine ⟨_, _, _, insS ks e2, rfl, same_put (sm.trans s1) hr0, by rw [upd_same, insS_new c4]; simp, nodup_insS hnd, by have := length_insS ks e2; omega, htake⟩
        · have c4 : e2 ∈ ks := Decidable.byContradiction fun z => by rw [decide_eq_false z] at c4; cases c4
          refine ⟨_, _, _, ks, rfl, sm.trans s1, hmt1, hnd, by omega, fun z => ?_⟩
          rw [← htake z, insS_old c4]
      · have z2 : (s' == side && (w' == "*" || w' == word)) = true := z.2
        rw [c2] at z2
        cases z2
    · refine ⟨_, rfl, la, _, 0, _, rfl, rfl, hT, at0, rfl, _, rfl, ite_f (by decide +kernel) (iteF ?_)⟩
      exact skip (fun z => by have := z.2; cases this) H' (Same.refl _)
    · refine ⟨_, rfl, la, _, 0, _, rfl, rfl, hT, at0, rfl, _, rfl, ite_f (by decide +kernel) (iteF ?_)⟩
      exact skip (fun z => by have := z.2; cases this) H' (Same.refl _)
  · rintro σ H' ⟨o5, o6, o7, ks, rfl, sm, hmt, hnd, hlen, hks⟩
    refine ⟨_, rfl, q _ r ks sm hmt hnd fun z => ?_⟩
    rw [hks z, h4.mapLen, List.take_length]

abbrev sstill : Stmt := top 34
abbrev Nscstill : List Str := ["_law_machine", "_law_stands", "_law_marks_here", "_law_found", "_law_at", "_law_one", "_law_leaf_here", "_law_other"]
theorem scstill : FnScope Nscstill ["_law_machine", "_law_stands", "_law_marks_here"] (defScope sstill) := ⟨rfl, rfl, rfl, by decide +kernel, rfl, by decide +kernel, by decide +kernel⟩
def spStill (K : PySem.W.Frag) : Sp := fun vs H Q _ => ∃ (mv : V) (st m : Addr) (n : Nat) (ms : List Mv) (ss : List Nat) (mk : List Str), vs = [mv, .ref st, .ref m] ∧ Dt K H mv (machD n ms) ∧ SqL K H st (intsV ss) ∧ SqL K H m (mk.map V.str) ∧ MvOk ms ∧ ss.Nodup ∧ (∀ s ∈ ss, s < 60) ∧
  ∀ (H' : Hp) (r : Addr) (zs : List Nat), Same H H' → H' r = some (.lst (intsV zs)) → zs.Nodup → (∀ z, z ∈ zs ↔ ∃ s ∈ ss, Star (Nul ms mk) s z) → Q (.ref r) H'
theorem ok_still {f : Addr} {fd : FuncData} (F : Fun K "_law_still" "_law_still" sstill f fd) (G : Gs K mg) : FnOk P w K mg base CX0 1 f fd ["_law_machine", "_law_stands", "_law_marks_here"] (spStill K) := by
  refine F.ok scstill (fun vs H Q E h => ?_) (fun cdv A outer s H vs Q E hr h => ?_)
  · obtain ⟨mv, st, m, n, ms, ss, mk, rfl, _⟩ := h
    rfl
  obtain ⟨mv, st, m, n, ms, ss, mk, rfl, hM, hS, hK, hok, hsn, hss, q⟩ := h
  refine ⟨_, (pss_cons (ps_set (i := 3) scstill.nd rfl (Or.inl rfl) (pe_callTy call_list_of (by rfl) G.list boot_list (pa_cons (pv 1) pa_nil))) (pss_cons (ps_set (i := 4) scstill.nd rfl (Or.inl rfl) pe_int) (pss_cons (ps_while PassesOwn.never (pt_cmpR op_lt (pv 4) (pe_callB call_len_seq (by rfl) G.len PySem.boot_len (pa_cons (pv 3) pa_nil)) (nomark _)) (pss_cons (ps_for PassesOwn.never rfl (pi_tup (pe_ix ix_tup (pv 0) pe_int (fun _ _ => rfl))) (pg_tup rfl (pgs_cons (pg_name (i := 5) scstill.nd rfl (Or.inl rfl)) (pgs_cons (pg_name (i := 6) scstill.nd rfl (Or.inl rfl)) (pgs_cons (pg_name (i := 7) scstill.nd rfl (Or.inl rfl)) pgs_nil)))) (pss_one (ps_if (PW.pt (pw_and (pt_cmpR op_eq (pv 5) (pe_ix ix_list (pv 3) (pv 4) (fun _ _ => rfl)) (nomark _)) (pw_and (pt_cmpR op_notIn_seq (pv 7) (pv 3) (by with_unfolding_all rfl)) (pw_and1 (pt_cmpR op_ne (pe_ix ix_tup (pv 6) pe_int (fun _ _ => rfl)) pe_str (nomark _)))))) (pss_one (ps_if (PW.pt (pw_or (pt_cmpR op_eq (pe_ix ix_tup (pv 6) pe_int (fun _ _ => rfl)) pe_str (nomark _)) (pw_or1 (pt_cmpR op_eq (pe_cmpR op_in_seq (pe_ix ix_tup (pv 6) pe_int (fun _ _ => rfl)) (pv 2) (by with_unfolding_all rfl)) (pe_cmpR op_eq (pe_ix ix_tup (pv 6) pe_int (fun _ _ => rfl)) pe_str (nomark _)) (nomark _))))) (pss_one (ps_expr (pe_bm PySem.F.plainAttrs_list PySem.F.slot_list_append PySem.F.type_list_append mt_append (pv 3) (pa_cons (pv 7) pa_nil)))) pss_nil)) pss_nil))) (pss_one (ps_set (i := 4) scstill.nd rfl (Or.inl rfl) (pe_op op_add (pv 4) pe_int))))) (pss_one (ps_ret (pv 3)))))), ?_⟩
  obtain ⟨a, ea, ma, mvs, rfl, h1, h2, h3, h4⟩ := machI hM
  have small : ∀ zs : List Nat, zs.Nodup → (∀ z ∈ zs, ∃ s ∈ ss, Star (Nul ms mk) s z) → zs.length ≤ 60 := fun zs hz h => nodup_few hz fun z hz' => by
    obtain ⟨s, hs, h⟩ := h z hz'
    have key : ∀ {i j}, Star (Nul ms mk) i j → i < 60 → j < 60 := by
      intro i j h
      induction h with
      | refl => exact id
      | head a _ ih =>
        obtain ⟨e, he, _, _, rfl⟩ := a
        exact fun _ => ih (hok.2 e he).2
    exact key h (hss s hs)
  -- found = list(stands)
  refine ⟨_, rfl, st, _, rfl, .inl hS, fun r hr0 => ?_⟩
  have s0 : Same H (upd H r (.lst (intsV ss))) := same_new hr0
  -- while at < len(found)
  refine ⟨fun mm σ H' => ∃ (o5 o6 o7 : Option V) (fs : List Nat) (i : Nat), σ = [some (.ref a), some (.ref st), some (.ref m), some (.ref r), some (.int (i : Nat)), o5, o6, o7] ∧ Same H H' ∧ H' r = some (.lst (intsV fs)) ∧ fs.Nodup ∧ mm = 60 - i ∧
      (∀ z ∈ fs, ∃ s ∈ ss, Star (Nul ms mk) s z) ∧ (∀ s ∈ ss, s ∈ fs) ∧ ∀ (j : Nat) z, j < i → fs[j]? = some z → ∀ t, Nul ms mk z t → t ∈ fs,
    ⟨_, none, none, none, ss, 0, rfl, s0, upd_same, hsn, rfl, fun z hz => ⟨z, hz, .refl z⟩, fun s hs => hs, fun j z hj => by omega⟩, ?_⟩
  rintro mm σ H2 ⟨o5, o6, o7, fs, i, rfl, s2, hf, hnd, emm, hA, hB, hC⟩
  have hfew := small fs hnd hA
  refine ⟨_, rfl, _, rfl, r, _, rfl, .inl (SqL.of hf), _, _, rfl, rfl, _, rfl, ?_⟩
  rw [show ((intsV fs).length) = fs.length from List.length_map _]
  refine ite_b (fun c => ?_) (fun c => ?_)
  · have c : i < fs.length := by have := of_decide_eq_true c; omega
    have hhere : fs[i]? = some fs[i] := List.getElem?_eq_getElem c
    generalize fs[i] = here at hhere
    refine ⟨fun σ' H' => ∃ mm', mm' < mm ∧ ∃ (o5 o6 o7 : Option V) (fs : List Nat) (i : Nat), σ' = [some (.ref a), some (.ref st), some (.ref m), some (.ref r), some (.int (i : Nat)), o5, o6, o7] ∧ Same H H' ∧ H' r = some (.lst (intsV fs)) ∧ fs.Nodup ∧ mm' = 60 - i ∧
      (∀ z ∈ fs, ∃ s ∈ ss, Star (Nul ms mk) s z) ∧ (∀ s ∈ ss, s ∈ fs) ∧ ∀ (j : Nat) z, j < i → fs[j]? = some z → ∀ t, Nul ms mk z t → t ∈ fs, fun _ _ h => h, ?_⟩
    refine ⟨_, rfl, a, _, 3, _, rfl, rfl, same_seqT s2 h1, at3, ma, rfl, ⟨_, same_seqT s2 h3⟩, ?_⟩
    refine for_tup (xs := mvs) (fun jj σ H' => ∃ (o5 o6 o7 : Option V) (more : List Nat), σ = [some (.ref a), some (.ref st), some (.ref m), some (.ref r), some (.int (i : Nat)), o5, o6, o7] ∧ Same H H' ∧ H' r = some (.lst (intsV (fs ++ more))) ∧ (fs ++ more).Nodup ∧
        (∀ z ∈ fs ++ more, ∃ s ∈ ss, Star (Nul ms mk) s z) ∧ ∀ e ∈ ms.take jj, e.1 = here → holdsB e.2.1 mk = true → e.2.2 ∈ fs ++ more)
      ⟨o5, o6, o7, [], rfl, s2, by rw [List.append_nil]; exact hf, by rw [List.append_nil]; exact hnd, by rw [List.append_nil]; exact hA, fun e he => by simp at he⟩ ?_ ?_ ?_
    · rintro jj σ H' _ ⟨_, _, _, _, _, sm, _⟩
      exact same_seqT sm h3
    · rintro jj x σ H' hi ⟨o5, o6, o7, more, rfl, sm, hf', hnd', hA', hE⟩
      obtain ⟨e, he, hx⟩ := h4.mapGet hi
      obtain ⟨b, lv, rfl, h5, h6⟩ := mvI hx
      obtain ⟨la, rfl, h7⟩ := leafI h6
      have hmem : e ∈ ms := List.mem_of_getElem? he
      have htk : ms.take (jj + 1) = ms.take jj ++ [e] := by rw [List.take_add_one, he]; rfl
      have hfew' := small _ hnd' hA'
      have skip : (e.1 = here → holdsB e.2.1 mk = true → e.2.2 ∈ fs ++ more) → ∃ (o5 o6 o7 : Option V) (more : List Nat), [some (.ref a), some (.ref st), some (.ref m), some (.ref r), some (.int (i : Nat)), some (V.int (e.1 : Nat)), some (V.ref la), some (V.int (e.2.2 : Nat))] = [some (.ref a), some (.ref st), some (.ref m), some (.ref r), some (.int (i : Nat)), o5, o6, o7] ∧ Same H H' ∧ H' r = some (.lst (intsV (fs ++ more))) ∧ (fs ++ more).Nodup ∧
          (∀ z ∈ fs ++ more, ∃ s ∈ ss, Star (Nul ms mk) s z) ∧ ∀ e ∈ ms.take (jj + 1), e.1 = here → holdsB e.2.1 mk = true → e.2.2 ∈ fs ++ more := fun hs => by
        refine ⟨_, _, _, more, rfl, sm, hf', hnd', hA', fun e' he' => ?_⟩
        rw [htk] at he'
        rcases List.mem_append.mp he' with z1 | z1
        · exact hE e' z1
        · rw [List.mem_singleton.mp z1]
          exact hs
      have hat : (intsV (fs ++ more))[i]? = some (V.int (here : Nat)) := by
        rw [List.getElem?_map, List.getElem?_append_left c, hhere]
        rfl
      refine ⟨b, _, rfl, same_seqT sm h5, rfl, _, _, rfl, _, _, rfl, _, _, rfl, rfl, ?_⟩
      -- one == found[at]
      refine ⟨_, rfl, _, rfl, _, rfl, r, _, _, _, rfl, rfl, SqL.of hf', atI_nat hat, rfl, _, rfl, ?_⟩
      rw [decI]
      refine ite_b (fun c1 => ?_) (fun c1 => iteF (skip fun z => absurd z (of_decide_eq_false c1)))
      have c1 := of_decide_eq_true c1
      -- other not in found
      refine ⟨_, rfl, _, rfl, r, _, rfl, .inl (SqL.of hf'), rfl, flat_intsV _, _, rfl, ?_⟩
      rw [if_pos rfl, inV_nat]
      refine ite_b (fun c2 => ?_) (fun c2 => iteF (skip fun _ _ => Decidable.byContradiction fun z => by rw [decide_eq_false z] at c2; cases c2))
      have c2 : e.2.2 ∉ fs ++ more := fun z => by rw [decide_eq_true z] at c2; cases c2
      have hT := same_seqT sm h7
      have add : holdsB e.2.1 mk = true → ∃ (v : V), ([some (.ref a), some (.ref st), some (.ref m), some (.ref r), some (.int (i : Nat)), some (V.int (e.1 : Nat)), some (V.ref la), some (V.int (e.2.2 : Nat))] : List (Option V))[3]? = some (some v) ∧ tyV K "list" v H' ∧ ∃ (v2 : V), ([some (.ref a), some (.ref st), some (.ref m), some (.ref r), some (.int (i : Nat)), some (V.int (e.1 : Nat)), some (V.ref la), some (V.int (e.2.2 : Nat))] : List (Option V))[7]? = some (some v2) ∧ ∃ (l : Addr) (xs : List V) (y : V), v = .ref l ∧ [v2] = [y] ∧ H' l = some (.lst xs) ∧ xs.length < sizeLine ∧
          ∃ (o5 o6 o7 : Option V) (more : List Nat), [some (.ref a), some (.ref st), some (.ref m), some (.ref r), some (.int (i : Nat)), some (V.int (e.1 : Nat)), some (V.ref la), some (V.int (e.2.2 : Nat))] = [some (.ref a), some (.ref st), some (.ref m), some (.ref r), some (.int (i : Nat)), o5, o6, o7] ∧ Same H (upd H' l (.lst (xs ++ [y]))) ∧ (upd H' l (.lst (xs ++ [y]))) r = some (.lst (intsV (fs ++ more))) ∧ (fs ++ more).Nodup ∧
          (∀ z ∈ fs ++ more, ∃ s ∈ ss, Star (Nul ms mk) s z) ∧ ∀ e ∈ ms.take (jj + 1), e.1 = here → holdsB e.2.1 mk = true → e.2.2 ∈ fs ++ more := fun hh => by
        have hnew : ∀ z ∈ fs ++ (more ++ [e.2.2]), ∃ s ∈ ss, Star (Nul ms mk) s z := fun z hz => by
          rw [← List.append_assoc] at hz
          rcases List.mem_append.mp hz with h | h
          · exact hA' z h
          · rw [List.mem_singleton.mp h]
            obtain ⟨s, hs, hst⟩ := hA' here (List.mem_append_left _ (List.mem_of_getElem? hhere))
            exact ⟨s, hs, hst.tail ⟨e, hmem, c1, hh, rfl⟩⟩
        refine ⟨_, rfl, .inl ⟨rfl, _, SqL.of hf'⟩, _, rfl, r, _, _, rfl, rfl, hf', by rw [List.length_map]; exact line_lt (by omega), _, _, _, more ++ [e.2.2], rfl, same_put sm hr0, ?_, ?_, hnew, fun e' he' => ?_⟩
        · rw [upd_same, ← List.append_assoc, show intsV (fs ++ more ++ [e.2.2]) = intsV (fs ++ more) ++ [V.int (e.2.2 : Nat)] from by simp]
        · rw [← List.append_assoc, ← insS_new c2]
          exact nodup_insS hnd'
        · rw [htk] at he'
          intro k1 k2
          rw [← List.append_assoc]
          rcases List.mem_append.mp he' with z1 | z1
          · exact List.mem_append_left _ (hE e' z1 k1 k2)
          · rw [List.mem_singleton.mp z1]
            exact List.mem_append_right _ (by simp)
      obtain ⟨e1, l, e2⟩ := e
      rcases l with _ | ⟨s', w'⟩ | m' | m'
      · refine ⟨_, rfl, la, _, 0, _, rfl, rfl, hT, at0, rfl, _, rfl, ite_t (by decide +kernel) ?_⟩
        refine ⟨_, rfl, la, _, 0, _, rfl, rfl, hT, at0, rfl, _, rfl, ite_t (by decide +kernel) (iteT ?_)⟩
        exact add rfl
      · refine ⟨_, rfl, la, _, 0, _, rfl, rfl, hT, at0, rfl, _, rfl, ite_f (by decide +kernel) ?_⟩
        exact skip fun _ z => by cases z
      · refine ⟨_, rfl, la, _, 0, _, rfl, rfl, hT, at0, rfl, _, rfl, ite_t (by decide +kernel) ?_⟩
        refine ⟨_, rfl, la, _, 0, _, rfl, rfl, hT, at0, rfl, _, rfl, ite_f (by decide +kernel) ?_⟩
        refine ⟨_, rfl, la, _, 1, _, rfl, rfl, hT, at1, _, rfl, m, _, rfl, .inl (sm.seq hK), rfl, flat_strV mk, ?_⟩
        refine ⟨_, rfl, la, _, 0, _, rfl, rfl, hT, at0, rfl, rfl, _, rfl, ?_⟩
        rw [dec_bl, if_neg Bool.false_ne_true, inV_strs, show decide (V.str "at" = V.str "at") = true by decide +kernel]
        refine ite_b (fun c3 => add ?_) (fun c3 => skip fun _ z => ?_)
        · show (mk.any fun y => y == m') = true
          cases hb : (mk.any fun y => y == m') with
          | true => rfl
          | false => rw [hb] at c3; cases c3
        · have z' : (mk.any fun y => y == m') = true := z
          rw [z'] at c3
          cases c3
      · refine ⟨_, rfl, la, _, 0, _, rfl, rfl, hT, at0, rfl, _, rfl, ite_t (by decide +kernel) ?_⟩
        refine ⟨_, rfl, la, _, 0, _, rfl, rfl, hT, at0, rfl, _, rfl, ite_f (by decide +kernel) ?_⟩
        refine ⟨_, rfl, la, _, 1, _, rfl, rfl, hT, at1, _, rfl, m, _, rfl, .inl (sm.seq hK), rfl, flat_strV mk, ?_⟩
        refine ⟨_, rfl, la, _, 0, _, rfl, rfl, hT, at0, rfl, rfl, _, rfl, ?_⟩
        rw [dec_bl, if_neg Bool.false_ne_true, inV_strs, show decide (V.str "off" = V.str "at") = false by decide +kernel]
        refine ite_b (fun c3 => add ?_) (fun c3 => skip fun _ z => ?_)
        · show (!mk.any fun y => y == m') = true
          cases hb : (mk.any fun y => y == m') with
          | true => rw [hb] at c3; cases c3
          | false => rfl
        · have z' : (!mk.any fun y => y == m') = true := z
          cases hb : (mk.any fun y => y == m') with
          | true => rw [hb] at z'; cases z'
          | false => rw [hb] at c3; cases c3
    · rintro σ H' ⟨o5, o6, o7, more, rfl, sm, hf', hnd', hA', hE⟩
      rw [h4.mapLen, List.take_length] at hE
      refine ⟨_, rfl, _, _, rfl, rfl, 60 - (i + 1), by omega, o5, o6, o7, fs ++ more, i + 1, rfl, sm, hf', hnd', rfl, hA', fun s hs => List.mem_append_left _ (hB s hs), fun j z hj hz => ?_⟩
      have hj' : j < fs.length := by omega
      rw [List.getElem?_append_left hj'] at hz
      by_cases e : j < i
      · exact fun t ht => List.mem_append_left _ (hC j z e hz t ht)
      · have : j = i := by omega
        subst this
        rw [hhere] at hz
        cases hz
        rintro t ⟨e, he, k1, k2, rfl⟩
        exact hE e he k1 k2
  · have c : fs.length ≤ i := by have := of_decide_eq_false c; omega
    refine ⟨_, rfl, q _ r fs s2 hf hnd (closed_star hA hB fun z hz t ht => ?_)⟩
    obtain ⟨j, hj, e⟩ := List.getElem_of_mem hz
    exact hC j z (by omega) (by rw [List.getElem?_eq_getElem hj, e]) t ht

abbrev sgone : Stmt := top 36
abbrev Nscgone : List Str := ["_law_rows_here", "_law_machine", "_law_way", "_law_stands", "_law_side", "_law_word", "_law_knot", "_law_stand"]
theorem scgone : FnScope Nscgone ["_law_rows_here", "_law_machine", "_law_way"] (defScope sgone) := ⟨rfl, rfl, rfl, by decide +kernel, rfl, by decide +kernel, by decide +kernel⟩
/-- the marks of a knot, by rows -/
def spGone (K : PySem.W.Frag) : Sp := fun vs H Q _ => ∃ (r : Addr) (mv wv : V) (ks : List (Str × List Str)) (ts : List Step) (n : Nat) (ms : List Mv) (k : Str) (ss : List Step) (mk : List Str) (mks : List (List Str)), vs = [.ref r, mv, wv] ∧ RowsAt K H r ks ts ∧ Dt K H mv (machD n ms) ∧ Dt K H wv (wayD k ss) ∧ MvOk ms ∧
  (k, mk) ∈ ks ∧ ss.length = mks.length ∧ (∀ (i : Nat) s m, ss[i]? = some s → mks[i]? = some m → (s.2.2, m) ∈ ks) ∧
  ∀ (H' : Hp) (b : Bool), Same H H' → (b = true ↔ Reach ms (mk :: mks) ss ss.length 1) → Q (.bl b) H'
theorem ok_gone {f : Addr} {fd : FuncData} (F : Fun K "_law_gone" "_law_gone" sgone f fd) (D_law_still : Def P w K mg base 1 "_law_still" ["_law_machine", "_law_stands", "_law_marks_here"] (spStill K))
    (D_law_by : Def P w K mg base 1 "_law_by" ["_law_machine", "_law_stands", "_law_side", "_law_word"] (spBy K)) : FnOk P w K mg base CX0 2 f fd ["_law_rows_here", "_law_machine", "_law_way"] (spGone K) := by
  refine F.ok scgone (fun vs H Q E h => ?_) (fun cdv A outer s H vs Q E hr h => ?_)
  · obtain ⟨r, mv, wv, ks, ts, n, ms, k, ss, mk, mks, rfl, _⟩ := h
    rfl
  obtain ⟨r, mv, wv, ks, ts, n, ms, k, ss, mk, mks, rfl, hR, hM, hV, hok, hk, hlen, hat, q⟩ := h
  refine ⟨_, (pss_cons (ps_set (i := 3) scgone.nd rfl (Or.inl rfl) (pe_def D_law_still (hr.mono (by omega)) rfl (pa_cons (pv 1) (pa_cons (pe_lst (pa_cons (pe_ix ix_tup (pv 1) pe_int (fun _ _ => rfl)) pa_nil)) (pa_cons (pe_dget (hu_of hr) (pe_ix ix_tup (pv 0) pe_int (fun _ _ => rfl)) (pe_ix ix_tup (pv 2) pe_int (fun _ _ => rfl)) (fun _ _ => rfl)) pa_nil))))) (pss_cons (ps_for PassesOwn.never rfl (pi_tup (pe_ix ix_tup (pv 2) pe_int (fun _ _ => rfl))) (pg_tup rfl (pgs_cons (pg_name (i := 4) scgone.nd rfl (Or.inl rfl)) (pgs_cons (pg_name (i := 5) scgone.nd rfl (Or.inl rfl)) (pgs_cons (pg_name (i := 6) scgone.nd rfl (Or.inl rfl)) pgs_nil)))) (pss_one (ps_set (i := 3) scgone.nd rfl (Or.inl rfl) (pe_def D_law_still (hr.mono (by omega)) rfl (pa_cons (pv 1) (pa_cons (pe_def D_law_by (hr.mono (by omega)) rfl (pa_cons (pv 1) (pa_cons (pv 3) (pa_cons (pv 4) (pa_cons (pv 5) pa_nil))))) (pa_cons (pe_dget (hu_of hr) (pe_ix ix_tup (pv 0) pe_int (fun _ _ => rfl)) (pv 6) (fun _ _ => rfl)) pa_nil))))))) (pss_one (ps_ret (pe_cmpR (op_neD hr.units) (pe_lc (own := [("_law_stand", 7)]) rfl scgone.nd (pi_list (pv 3)) (blkOk_by (N := Nscgone) (sc := defScope sgone) (by decide +kernel)) (fun _ _ _ _ _ => (pg_name (i := 7) scgone.nd rfl (Or.inl rfl))) (fun _ _ _ _ _ => (pts_one (pt_cmpR (r := rIn K false) op_in_seq (pv 7) (pe_ix (r := rIxT K) ix_tup (pv 1) pe_int (fun _ _ => rfl)) (by with_unfolding_all rfl)))) (fun _ _ _ _ _ => (pv 7))) (pe_lst pa_nil) (nomark _)))))), ?_⟩
  obtain ⟨a, ea, ma, mvs, rfl, h1, h2, h3, h4⟩ := machI hM
  obtain ⟨b, c, sv, rfl, w1, w2, w3⟩ := wayI hV
  have hb : ∀ i z, Reach ms (mk :: mks) ss i z → z < 60 := fun i z h => reach_lt (by decide) (fun e he => (hok.2 e he).2) h
  -- the marks of a knot
  obtain ⟨rd, rl, kvs, tv, r1, r2, r3, r4, r5, r6⟩ := hR
  -- stands
  refine ⟨_, rfl, _, rfl, a, _, 1, _, rfl, rfl, h1, at1, by show 1 ≤ sizeLine; decide, fun t ht => ?_⟩
  have s1 : Same H (upd H t (.lst [.int 0])) := same_new ht
  obtain ⟨m0, g1, g2⟩ := r4 _ hk
  refine ⟨_, rfl, r, _, 0, _, rfl, rfl, same_seqT s1 r1, at0, _, rfl, b, _, 0, _, rfl, rfl, same_seqT s1 w1, at0, rd, _, rfl, by rw [← g1]; exact DGet.k (k := Sum.inr k) (s1 _ _ r2), ?_⟩
  refine ⟨_, t, m0, n, ms, [0], mk, rfl, hM.same s1, SqL.of upd_same, SqL.of (s1 _ _ g2), hok, by simp, by simp, fun H2 r2' zs s3 hr2 hnd hzs => ?_⟩
  have hz0 : ∀ z, z ∈ zs ↔ Reach ms (mk :: mks) ss 0 z := fun z => (hzs z).trans (reach0 (ms := ms) (mks := mk :: mks) (ss := ss) z).symm
  have sm2 := s1.trans s3
  -- for side, word, knot in way[1]
  refine ⟨_, rfl, b, _, 1, _, rfl, rfl, same_seqT sm2 w1, at1, c, rfl, ⟨_, same_seqT sm2 w2⟩, ?_⟩
  refine for_tup (xs := sv) (fun i σ H' => ∃ (o4 o5 o6 : Option V) (p : Addr) (zs : List Nat), σ = [some (.ref r), some (.ref a), some (.ref b), some (.ref p), o4, o5, o6, none] ∧ Same H H' ∧ H' p = some (.lst (intsV zs)) ∧ zs.Nodup ∧ ∀ z, z ∈ zs ↔ Reach ms (mk :: mks) ss i z)
    ⟨none, none, none, r2', zs, rfl, sm2, hr2, hnd, hz0⟩ ?_ ?_ ?_
  · rintro i σ H' _ ⟨_, _, _, _, _, _, sm, _⟩
    exact same_seqT sm w2
  · rintro i x σ H' hi ⟨o4, o5, o6, p, zs, rfl, sm, hp, hnd, hz⟩
    obtain ⟨st, hst, hx⟩ := w3.mapGet hi
    obtain ⟨d, rfl, hd⟩ := stI hx
    have hi' : i < ss.length := (List.getElem?_eq_some_iff.mp hst).1
    have hmk : mks[i]? = some mks[i] := List.getElem?_eq_getElem (by omega)
    have hkn := hat i st _ hst hmk
    refine ⟨d, _, rfl, same_seqT sm hd, rfl, _, _, rfl, _, _, rfl, _, _, rfl, rfl, ?_⟩
    refine ⟨_, rfl, _, rfl, _, rfl, _, rfl, _, rfl, ?_⟩
    refine ⟨_, p, n, ms, zs, st.1, st.2.1, rfl, hM.same sm, SqL.of hp, hok, fun H1 p1 ys s1 hp1 hnd1 hys => ?_⟩
    have sm1 := sm.trans s1
    obtain ⟨m1, g1, g2⟩ := r4 _ hkn
    have hyb : ∀ y ∈ ys, y < 60 := fun y h => by
      obtain ⟨e, he, _, _, rfl⟩ := (hys y).mp h
      exact (hok.2 e he).2
    refine ⟨_, rfl, r, _, 0, _, rfl, rfl, same_seqT sm1 r1, at0, _, rfl, rd, _, rfl, by rw [← g1]; exact DGet.k (k := Sum.inr st.2.2) (sm1 _ _ r2), ?_⟩
    refine ⟨_, p1, m1, n, ms, ys, mks[i], rfl, hM.same sm1, SqL.of hp1, SqL.of (sm1 _ _ g2), hok, hnd1, hyb, fun H3 p3 zs3 s3 hp3 hnd3 hzs3 => ?_⟩
    refine ⟨_, _, _, p3, zs3, rfl, sm1.trans s3, hp3, hnd3, fun z => ?_⟩
    rw [hzs3 z, reachS hst z]
    have em : (mk :: mks).getD (i + 1) [] = mks[i] := by
      rw [List.getD_cons_succ, List.getD_eq_getElem?_getD, hmk]
      rfl
    rw [em]
    constructor
    · rintro ⟨y, hy, h⟩
      obtain ⟨e, he, k1, k2, k3⟩ := (hys y).mp hy
      exact ⟨y, ⟨e, he, (hz _).mp k1, k2, k3⟩, h⟩
    · rintro ⟨y, ⟨e, he, k1, k2, k3⟩, h⟩
      exact ⟨y, (hys y).mpr ⟨e, he, (hz _).mpr k1, k2, k3⟩, h⟩
  · rintro σ H' ⟨o4, o5, o6, p, zs, rfl, sm, hp, hnd, hz⟩
    have hzb : ∀ z ∈ zs, z < 60 := fun z h => hb _ z ((hz z).mp h)
    have hfew := nodup_few hnd hzb
    -- [stand for stand in stands if stand in machine[2]] != []
    refine ⟨_, rfl, p, rfl, ⟨_, SqL.of hp⟩, fun D hD => ?_⟩
    refine lc_list (xs := intsV zs) (fun i H1 => Same H' H1 ∧ H1 D = some (.lst (intsV ((zs.take i).filter fun s => decide (s = 1))))) ⟨same_new hD, upd_same⟩ (fun i H1 _ ⟨sm1, _⟩ => SqL.of (sm1 _ _ hp)) ?_ ?_
    · rintro i x H1 hi ⟨sm1, hDi⟩
      obtain ⟨z, hz1, rfl⟩ := intsV_at hi
      have hi' : i < zs.length := (List.getElem?_eq_some_iff.mp hz1).1
      have htk : zs.take (i + 1) = zs.take i ++ [z] := by rw [List.take_add_one, hz1]; rfl
      have sm3 := sm.trans sm1
      refine ⟨rfl, _, rfl, _, rfl, a, _, 2, _, rfl, rfl, same_seqT sm3 h1, at2, ea, _, rfl, .inr (same_seqT sm3 h2), rfl, rfl, _, rfl, ?_⟩
      rw [if_neg Bool.false_ne_true]
      have e1 : inV (V.int (z : Nat)) [V.int 1] = decide (z = 1) := by
        rw [show ([V.int 1] : List V) = intsV [1] from rfl, inV_nat, decide_eq_decide]
        exact List.mem_singleton
      rw [e1]
      have hlen : ((zs.take i).filter fun s => decide (s = 1)).length ≤ 1000 := Nat.le_trans (List.length_filter_le _ _) (by rw [List.length_take]; omega)
      refine ite_b (fun c => ?_) (fun c => ?_)
      · refine ⟨_, rfl, _, hDi, by rw [List.length_map]; exact line_lt (by omega), same_put sm1 hD, ?_⟩
        rw [upd_same, htk, List.filter_append, show ([z].filter fun s => decide (s = 1)) = [z] by simp only [List.filter_cons, c, if_true, List.filter_nil]]
        simp
      · refine ⟨sm1, ?_⟩
        rw [htk, List.filter_append, show ([z].filter fun s => decide (s = 1)) = [] by simp only [List.filter_cons, c, Bool.false_eq_true, if_false, List.filter_nil], List.append_nil]
        exact hDi
    · rintro H1 ⟨sm1, hDn⟩
      rw [show (intsV zs).length = zs.length from List.length_map _, List.take_length] at hDn
      refine ⟨by show 0 ≤ sizeLine; decide, fun e0 he0 => ?_⟩
      have s4 : Same H1 (upd H1 e0 (.lst [])) := same_new he0
      refine ⟨_, _, .lst (SqL.of (s4 _ _ hDn)) (dp_ints _), .lst (SqL.of upd_same) .nil, shaped_ints _, shaped_nil, ?_⟩
      rw [eqv_nil]
      refine q _ _ ((sm.trans sm1).trans s4) ?_
      have e : (!(intsD (zs.filter fun s => decide (s = 1))).isEmpty) = decide (1 ∈ zs) := by
        rw [Bool.eq_iff_iff, decide_eq_true_eq, Bool.not_eq_true', List.isEmpty_eq_false_iff]
        constructor
        · intro h
          have h' : (zs.filter fun s => decide (s = 1)) ≠ [] := fun z => h (by rw [z]; rfl)
          obtain ⟨x, hx⟩ := List.exists_mem_of_ne_nil _ h'
          have := List.mem_filter.mp hx
          rw [← of_decide_eq_true this.2]
          exact this.1
        · intro h z
          have : (1 : Nat) ∈ zs.filter fun s => decide (s = 1) := List.mem_filter.mpr ⟨h, rfl⟩
          rw [List.map_eq_nil_iff.mp z] at this
          cases this
      rw [e, decide_eq_true_eq, hz 1, w3.mapLen]
end
end PK
set_option Elab.async false
set_option linter.all false
set_option maxRecDepth 100000
set_option autoImplicit false
/-! Ends of parts of a way. -/
namespace PK
open PySem PySem.Spec PyProof.Rows L2
abbrev FitP (mks : List (List Str)) (ss : List Step) : Pt → Nat → Nat → Prop := Fit (oneAt mks ss)
section
variable {one : Leaf → Nat → Nat → Prop}
theorem fitAll_snoc : ∀ (ps : List Pt) (p : Pt) (i j : Nat), FitAll one (ps ++ [p]) i j ↔ ∃ k, FitAll one ps i k ∧ Fit one p k j
  | [], p, i, j => by
    simp only [List.nil_append, FitAll]
    constructor
    · rintro ⟨k, h, rfl⟩
      exact ⟨i, rfl, h⟩
    · rintro ⟨k, rfl, h⟩
      exact ⟨j, h, rfl⟩
  | q :: ps, p, i, j => by
    simp only [List.cons_append, FitAll]
    constructor
    · rintro ⟨k, h, h'⟩
      obtain ⟨k', h1, h2⟩ := (fitAll_snoc ps p k j).mp h'
      exact ⟨k', ⟨k, h, h1⟩, h2⟩
    · rintro ⟨k', ⟨k, h, h1⟩, h2⟩
      exact ⟨k, h, (fitAll_snoc ps p k j).mpr ⟨k', h1, h2⟩⟩
theorem fitAny_snoc : ∀ (ps : List Pt) (p : Pt) (i j : Nat), FitAny one (ps ++ [p]) i j ↔ FitAny one ps i j ∨ Fit one p i j
  | [], p, i, j => by
    simp only [List.nil_append, FitAny]
    exact ⟨fun h => h.elim .inr .inl, fun h => h.elim .inr .inl⟩
  | q :: ps, p, i, j => by
    simp only [List.cons_append, FitAny, fitAny_snoc ps p i j, or_assoc]
end
/-- lists of marks, one at each place -/
def MarksAt (K : PySem.W.Frag) (H : Hp) (mv : List V) (mks : List (List Str)) : Prop := mv.length = mks.length ∧ ∀ (i : Nat) m, mks[i]? = some m → ∃ l, mv[i]? = some (.ref l) ∧ SqL K H l (m.map V.str)
theorem MarksAt.same {K : PySem.W.Frag} {H H' : Hp} {mv : List V} {mks : List (List Str)} (h : MarksAt K H mv mks) (e : Same H H') : MarksAt K H' mv mks := ⟨h.1, fun i m hm => let ⟨l, q1, q2⟩ := h.2 i m hm; ⟨l, q1, e.seq q2⟩⟩
/-- few numbers up to n, each once -/
def Few (n : Nat) (zs : List Nat) : Prop := zs.Nodup ∧ ∀ z ∈ zs, z ≤ n
theorem Few.len {n : Nat} {zs : List Nat} (h : Few n zs) : zs.length ≤ n + 1 := nodup_few h.1 fun z hz => Nat.lt_succ_of_le (h.2 z hz)
theorem Few.filter {n : Nat} {zs : List Nat} (h : Few n zs) (p : Nat → Bool) : Few n (zs.filter p) := ⟨h.1.filter _, fun z hz => h.2 z (List.mem_filter.mp hz).1⟩
theorem Few.add {n : Nat} {fs zs : List Nat} (h : Few n fs) (h' : Few n zs) : Few n (fs ++ zs.filter fun z => decide (z ∉ fs)) := by
  refine ⟨List.nodup_append.mpr ⟨h.1, h'.1.filter _, fun a ha b hb e => ?_⟩, fun z hz => ?_⟩
  · subst e
    exact of_decide_eq_true (List.mem_filter.mp hb).2 ha
  · rcases List.mem_append.mp hz with h1 | h1
    · exact h.2 z h1
    · exact h'.2 z (List.mem_filter.mp h1).1
theorem mem_add {fs zs : List Nat} {z : Nat} : z ∈ fs ++ (zs.filter fun z => decide (z ∉ fs)) ↔ z ∈ fs ∨ z ∈ zs := by
  rw [List.mem_append, List.mem_filter, decide_eq_true_eq]
  constructor
  · rintro (h | h)
    · exact .inl h
    · exact .inr h.1
  · rintro (h | h)
    · exact .inl h
    · by_cases e : z ∈ fs
      · exact .inl e
      · exact .inr ⟨h, e⟩
theorem lenV {zs : List Nat} : (intsV zs).length = zs.length := List.length_map _
end PK
set_option Elab.async false
set_option linter.all false
set_option maxRecDepth 100000
set_option autoImplicit false
set_option maxHeartbeats 4000000
/-! The law's cutting of ways: ends, fits. -/
namespace PK
open PySem PySem.Spec PyProof.Rows L2
section
variable {P : Program} {w : World} {K : PySem.W.Frag} {mg : Str → Option Value} {base : Heap}
theorem take_get {α : Type} {l : List α} {i : Nat} {x : α} (h : l[i]? = some x) : l.take (i + 1) = l.take i ++ [x] := by
  rw [List.take_add_one, h]
  rfl
theorem filter_t {p : Nat → Bool} {z : Nat} (h : p z = true) : [z].filter p = [z] := by simp [List.filter_cons, h]
theorem filter_f {p : Nat → Bool} {z : Nat} (h : p z = false) : [z].filter p = [] := by simp [List.filter_cons, h]
/-- the leaf of a step: where it begins -/
def beg (ss : List Step) (s : Str) (k : Nat) : Bool := match ss[k]? with
  | some st => st.1 == s
  | none => false
def goesOn (ss : List Step) (w : Str) (k : Nat) : Bool := match ss[k]? with
  | some st => (("*" : Str) == w || (st.2.1 == w || false))
  | none => false
theorem step_ends {mks : List (List Str)} {ss : List Step} {s w : Str} {bs : List Nat} (z : Nat) :
    z ∈ (((bs.filter (beg ss s)).filter (goesOn ss w)).map fun k => k + 1) ↔ ∃ b ∈ bs, FitP mks ss (.leaf (.step s w)) b z := by
  rw [List.mem_map]
  constructor
  · rintro ⟨b, hb, rfl⟩
    obtain ⟨h1, h2⟩ := List.mem_filter.mp hb
    obtain ⟨h3, h4⟩ := List.mem_filter.mp h1
    refine ⟨b, h3, ?_⟩
    simp only [Fit]
    unfold beg at h4
    unfold goesOn at h2
    cases e : ss[b]? with
    | none => rw [e] at h4; cases h4
    | some st =>
      rw [e] at h4 h2
      refine .inr ⟨rfl, st, e, ?_⟩
      show (s == st.1 && (w == "*" || w == st.2.1)) = true
      rw [BEq.comm (a := s), BEq.comm (a := w) (b := ("*" : Str)), BEq.comm (a := w) (b := st.2.1)]
      have h4' : (st.1 == s) = true := h4
      have h2' : ("*" == w || (st.2.1 == w || false)) = true := h2
      rw [Bool.or_false] at h2'
      rw [h4', h2']
      rfl
  · rintro ⟨b, hb, h⟩
    simp only [Fit] at h
    rcases h with ⟨_, h⟩ | ⟨e, st, hst, h⟩
    · cases h
    · refine ⟨b, List.mem_filter.mpr ⟨List.mem_filter.mpr ⟨hb, ?_⟩, ?_⟩, e.symm⟩
      · unfold beg
        rw [hst]
        have h' : (s == st.1 && (w == "*" || w == st.2.1)) = true := h
        show (st.1 == s) = true
        rw [BEq.comm]
        exact (Bool.and_eq_true_iff.mp h').1
      · unfold goesOn
        rw [hst]
        have h' : (s == st.1 && (w == "*" || w == st.2.1)) = true := h
        show ("*" == w || (st.2.1 == w || false)) = true
        rw [Bool.or_false, BEq.comm (a := ("*" : Str)), BEq.comm (a := st.2.1)]
        exact (Bool.and_eq_true_iff.mp h').2
theorem step_few {ss : List Step} {s w : Str} {bs : List Nat} (h : Few ss.length bs) : Few ss.length (((bs.filter (beg ss s)).filter (goesOn ss w)).map fun k => k + 1) := by
  refine ⟨List.Pairwise.map (fun k => k + 1) (fun a b (e : a ≠ b) => by omega) ((h.1.filter (beg ss s)).filter (goesOn ss w)), fun z hz => ?_⟩
  obtain ⟨b, hb, rfl⟩ := List.mem_map.mp hz
  have h1 := (List.mem_filter.mp hb).2
  unfold goesOn at h1
  cases e : ss[b]? with
  | none => rw [e] at h1; cases h1
  | some st =>
    have := (List.getElem?_eq_some_iff.mp e).1
    omega
theorem at_ends {mks : List (List Str)} {ss : List Step} {l : Leaf} (hl : ∀ a b, stepB l a b = false) {bs : List Nat} (z : Nat) :
    z ∈ (bs.filter fun k => holdsB l (mks.getD k [])) ↔ ∃ b ∈ bs, FitP mks ss (.leaf l) b z := by
  rw [List.mem_filter]
  constructor
  · rintro ⟨h1, h2⟩
    refine ⟨z, h1, ?_⟩
    simp only [Fit]
    exact .inl ⟨rfl, h2⟩
  · rintro ⟨b, hb, h⟩
    simp only [Fit] at h
    rcases h with ⟨e, h⟩ | ⟨_, st, _, h⟩
    · exact ⟨e ▸ hb, e ▸ h⟩
    · rw [hl] at h
      cases h

abbrev sends : Stmt := top 32
abbrev Nscends : List Str := ["_law_pattern_here", "_law_steps_here", "_law_marks_here", "_law_begins", "_law_k", "_law_some", "_law_part_here", "_law_found", "_law_many"]
theorem scends : FnScope Nscends ["_law_pattern_here", "_law_steps_here", "_law_marks_here", "_law_begins"] (defScope sends) := ⟨rfl, rfl, rfl, by decide +kernel, rfl, by decide +kernel, by decide +kernel⟩
def spEnds (K : PySem.W.Frag) (n : Nat) : Sp := fun vs H Q _ => ∃ (pvv : V) (st mk bg : Addr) (p : Pt) (sv mv : List V) (ss : List Step) (mks : List (List Str)) (bs : List Nat), vs = [pvv, .ref st, .ref mk, .ref bg] ∧ Dt K H pvv (patD p) ∧ dps p ≤ n ∧ SqT K H st sv ∧ DtAll K H sv (ss.map stD) ∧ SqL K H mk mv ∧ MarksAt K H mv mks ∧ mks.length = ss.length + 1 ∧ ss.length ≤ 50 ∧ SqL K H bg (intsV bs) ∧ Few ss.length bs ∧
  ∀ (H' : Hp) (r : Addr) (zs : List Nat), Same H H' → SqL K H' r (intsV zs) → Few ss.length zs → (∀ z, z ∈ zs ↔ ∃ b ∈ bs, FitP mks ss p b z) → Q (.ref r) H'
/-- found + [k for k in ends if k not in found] -/
theorem ok_ends {f : Addr} {fd : FuncData} {k n : Nat} (F : Fun K "_law_ends" "_law_ends" sends f fd) (G : Gs K mg) (D_law_ends : Def P w K mg base k "_law_ends" ["_law_pattern_here", "_law_steps_here", "_law_marks_here", "_law_begins"] (spEnds K n)) :
    FnOk P w K mg base CX0 (k + 1) f fd ["_law_pattern_here", "_law_steps_here", "_law_marks_here", "_law_begins"] (spEnds K (n + 1)) := by
  refine F.ok scends (fun vs H Q E h => ?_) (fun cdv A outer s H vs Q E hr h => ?_)
  · obtain ⟨pvv, st, mk, bg, p, sv, mv, ss, mks, bs, rfl, _⟩ := h
    rfl
  obtain ⟨pvv, st, mk, bg, p, sv, mv, ss, mks, bs, rfl, hP, hd, hS, hSv, hMk, hMv, hml, hsl, hB, hbs, q⟩ := h
  refine ⟨_, (pss_cons (ps_if (pt_cmpR op_eq (pe_ix ix_tup (pv 0) pe_int (fun _ _ => rfl)) pe_str (nomark _)) (pss_one (ps_ret (pv 3))) pss_nil) (pss_cons (ps_if (PW.pt (pw_or (pt_cmpR op_eq (pe_ix ix_tup (pv 0) pe_int (fun _ _ => rfl)) pe_str (nomark _)) (pw_or1 (pt_cmpR op_eq (pe_ix ix_tup (pv 0) pe_int (fun _ _ => rfl)) pe_str (nomark _))))) (pss_one (ps_ret (pe_lc (own := [("_law_k", 4)]) rfl scends.nd (pi_list (pv 3)) (blkOk_by (N := Nscends) (sc := defScope sends) (by decide +kernel)) (fun _ _ _ _ _ => (pg_name (i := 4) scends.nd rfl (Or.inl rfl))) (fun _ _ _ _ _ => (pts_one (pt_cmpR op_eq (pe_cmpR (r := rIn K false) op_in_seq (pe_ix (r := rIxT K) ix_tup (pv 0) pe_int (fun _ _ => rfl)) (pe_ix (r := rIxL K) ix_list (pv 2) (pv 4) (fun _ _ => rfl)) (by with_unfolding_all rfl)) (pe_cmpR op_eq (pe_ix (r := rIxT K) ix_tup (pv 0) pe_int (fun _ _ => rfl)) pe_str (nomark _)) (nomark _)))) (fun _ _ _ _ _ => (pv 4))))) pss_nil) (pss_cons (ps_if (pt_cmpR op_eq (pe_ix ix_tup (pv 0) pe_int (fun _ _ => rfl)) pe_str (nomark _)) (pss_cons (ps_setLc (i := 5) (own := [("_law_k", 4)]) rfl scends.nd rfl rfl (sw_true rfl rfl rfl (by decide +kernel)) (pi_list (pv 3)) (blkOk_by (N := Nscends) (sc := defScope sends) (by decide +kernel)) (fun _ _ _ _ _ => (pg_name (i := 4) scends.nd rfl (Or.inl rfl))) (fun _ _ _ _ _ => (pts_one (PW.pt (pw_and (pt_cmpR op_lt (pv 4) (pe_callB (r := rLenS K) len_seq (by rfl) G.len PySem.boot_len (pa_cons (pv 1) pa_nil)) (nomark _)) (pw_and1 (pt_cmpR op_eq (pe_ix (r := rIxT K) ix_tup (pe_ix (r := rIxT K) ix_tup (pv 1) (pv 4) (fun _ _ => rfl)) pe_int (fun _ _ => rfl)) (pe_ix (r := rIxT K) ix_tup (pv 0) pe_int (fun _ _ => rfl)) (nomark _))))))) (fun _ _ _ _ _ => (pv 4))) (pss_one (ps_ret (pe_lc (own := [("_law_k", 4)]) rfl scends.nd (pi_list (pv 5)) (blkOk_by (N := Nscends) (sc := defScope sends) (by decide +kernel)) (fun _ _ _ _ _ => (pg_name (i := 4) scends.nd rfl (Or.inl rfl))) (fun _ _ _ _ _ => (pts_one (pt_cmpR (r := rIn K false) op_in_seq (pe_ix (r := rIxT K) ix_tup (pv 0) pe_int (fun _ _ => rfl)) (pe_tup (pa_cons pe_str (pa_cons (pe_ix (r := rIxT K) ix_tup (pe_ix (r := rIxT K) ix_tup (pv 1) (pv 4) (fun _ _ => rfl)) pe_int (fun _ _ => rfl)) pa_nil))) (by with_unfolding_all rfl)))) (fun _ _ _ _ _ => (pe_op op_add (pv 4) pe_int)))))) pss_nil) (pss_cons (ps_if (pt_cmpR op_eq (pe_ix ix_tup (pv 0) pe_int (fun _ _ => rfl)) pe_str (nomark _)) (pss_cons (ps_for PassesOwn.never rfl (pi_tup (pe_ix ix_tup (pv 0) pe_int (fun _ _ => rfl))) (pg_name (i := 6) scends.nd rfl (Or.inl rfl)) (pss_one (ps_set (i := 3) scends.nd rfl (Or.inl rfl) (pe_def D_law_ends (hr.mono (by omega)) rfl (pa_cons (pv 6) (pa_cons (pv 1) (pa_cons (pv 2) (pa_cons (pv 3) pa_nil)))))))) (pss_one (ps_ret (pv 3)))) pss_nil) (pss_cons (ps_set (i := 7) scends.nd rfl (Or.inr rfl) (pe_lst pa_nil)) (pss_cons (ps_if (pt_cmpR op_eq (pe_ix ix_tup (pv 0) pe_int (fun _ _ => rfl)) pe_str (nomark _)) (pss_cons (ps_for PassesOwn.never rfl (pi_tup (pe_ix ix_tup (pv 0) pe_int (fun _ _ => rfl))) (pg_name (i := 6) scends.nd rfl (Or.inl rfl)) (pss_one (ps_set (i := 7) scends.nd rfl (Or.inr rfl) (pe_op op_cat (pv 7) (pe_lc (own := [("_law_k", 4)]) rfl scends.nd (pi_list (pe_def D_law_ends (hr.mono (by omega)) rfl (pa_cons (pv 6) (pa_cons (pv 1) (pa_cons (pv 2) (pa_cons (pv 3) pa_nil)))))) (blkOk_by (N := Nscends) (sc := defScope sends) (by decide +kernel)) (fun _ _ _ _ _ => (pg_name (i := 4) scends.nd rfl (Or.inl rfl))) (fun _ _ _ _ _ => (pts_one (pt_cmpR (r := rIn K true) op_notIn_seq (pv 4) (pv 7) (by with_unfolding_all rfl)))) (fun _ _ _ _ _ => (pv 4))))))) (pss_one (ps_ret (pv 7)))) pss_nil) (pss_cons (ps_set (i := 7) scends.nd rfl (Or.inr rfl) (pe_callTy call_list_of (by rfl) G.list boot_list (pa_cons (pv 3) pa_nil))) (pss_cons (ps_set (i := 8) scends.nd rfl (Or.inl rfl) (pe_un un_neg pe_int)) (pss_cons (ps_while PassesOwn.never (pt_cmpR op_lt (pv 8) (pe_callB call_len_seq (by rfl) G.len PySem.boot_len (pa_cons (pv 7) pa_nil)) (nomark _)) (pss_cons (ps_set (i := 8) scends.nd rfl (Or.inl rfl) (pe_callB call_len_seq (by rfl) G.len PySem.boot_len (pa_cons (pv 7) pa_nil))) (pss_one (ps_set (i := 7) scends.nd rfl (Or.inr rfl) (pe_op op_cat (pv 7) (pe_lc (own := [("_law_k", 4)]) rfl scends.nd (pi_list (pe_def D_law_ends (hr.mono (by omega)) rfl (pa_cons (pe_ix ix_tup (pv 0) pe_int (fun _ _ => rfl)) (pa_cons (pv 1) (pa_cons (pv 2) (pa_cons (pv 7) pa_nil)))))) (blkOk_by (N := Nscends) (sc := defScope sends) (by decide +kernel)) (fun _ _ _ _ _ => (pg_name (i := 4) scends.nd rfl (Or.inl rfl))) (fun _ _ _ _ _ => (pts_one (pt_cmpR (r := rIn K true) op_notIn_seq (pv 4) (pv 7) (by with_unfolding_all rfl)))) (fun _ _ _ _ _ => (pv 4)))))))) (pss_one (ps_ret (pv 7)))))))))))), ?_⟩
  have hbl := hbs.len
  -- the tests at the pattern's first item
  rcases p with l | ps | ps | p
  · rw [patD] at hP
    obtain ⟨a, rfl, hT⟩ := leafI hP
    rcases l with _ | ⟨s', w'⟩ | m' | m'
    · -- stay
      refine ⟨_, rfl, a, _, 0, _, rfl, rfl, hT, at0, rfl, _, rfl, ite_t (by decide +kernel) ?_⟩
      refine ⟨_, rfl, q H bg bs (Same.refl H) hB hbs fun z => ?_⟩
      constructor
      · intro h
        exact ⟨z, h, by simp only [Fit]; exact (oneAt_stay mks ss z z).mpr rfl⟩
      · rintro ⟨b, hb, h⟩
        simp only [Fit] at h
        rw [← (oneAt_stay mks ss b z).mp h]
        exact hb
    · -- step
      refine ⟨_, rfl, a, _, 0, _, rfl, rfl, hT, at0, rfl, _, rfl, ite_f (by decide +kernel) ?_⟩
      refine ⟨_, rfl, a, _, 0, _, rfl, rfl, hT, at0, rfl, _, rfl, ite_f (by decide +kernel) ?_⟩
      refine ⟨_, rfl, a, _, 0, _, rfl, rfl, hT, at0, rfl, _, rfl, ite_f (by decide +kernel) ?_⟩
      refine ⟨_, rfl, a, _, 0, _, rfl, rfl, hT, at0, rfl, _, rfl, ite_t (by decide +kernel) ?_⟩
      -- some
      refine ⟨_, rfl, bg, rfl, ⟨_, hB⟩, fun D hD => ?_⟩
      refine lc_list (xs := intsV bs) (fun i H1 => Same H H1 ∧ H1 D = some (.lst (intsV ((bs.take i).filter (beg ss s'))))) ⟨same_new hD, upd_same⟩ (fun i H1 _ ⟨sm, _⟩ => sm.seq hB) ?_ ?_
      · rintro i x H1 hi ⟨sm, hDi⟩
        obtain ⟨z, hz, rfl⟩ := intsV_at hi
        have hi' : i < bs.length := (List.getElem?_eq_some_iff.mp hz).1
        have hzn := hbs.2 z (List.mem_of_getElem? hz)
        have hlen : ((bs.take i).filter (beg ss s')).length ≤ 1000 := Nat.le_trans (List.length_filter_le _ _) (by rw [List.length_take]; omega)
        refine ⟨rfl, _, rfl, _, rfl, st, _, rfl, .inr (same_seqT sm hS), _, _, rfl, rfl, _, rfl, ?_⟩
        rw [hSv.mapLen]
        have skip : beg ss s' z = false → Same H H1 ∧ H1 D = some (.lst (intsV ((bs.take (i + 1)).filter (beg ss s')))) := fun hb => by
          rw [take_get hz, List.filter_append, filter_f hb, List.append_nil]
          exact ⟨sm, hDi⟩
        refine ite_b (fun c => ?_) (fun c => iteF (skip ?_))
        · have c : z < ss.length := by have := of_decide_eq_true c; omega
          have hst : ss[z]? = some ss[z] := List.getElem?_eq_getElem c
          generalize ss[z] = s0 at hst
          obtain ⟨v, hv, hvd⟩ := hSv.get (i := z) (d := stD s0) (by rw [List.getElem?_map, hst]; rfl)
          obtain ⟨sa, rfl, hsa⟩ := stI hvd
          refine ⟨_, rfl, _, rfl, st, _, _, _, rfl, rfl, same_seqT sm hS, atI_nat hv, sa, _, 0, _, rfl, rfl, same_seqT sm hsa, at0, _, rfl, a, _, 1, _, rfl, rfl, same_seqT sm hT, at1, rfl, _, rfl, ?_⟩
          rw [decV]
          have eb : (s0.1 == s') = beg ss s' z := by unfold beg; rw [hst]
          refine ite_b (fun c2 => ?_) (fun c2 => skip (by rw [← eb]; exact c2))
          refine ⟨_, rfl, _, hDi, by rw [List.length_map]; exact line_lt (by omega), same_put sm hD, ?_⟩
          rw [upd_same, take_get hz, List.filter_append, filter_t (by rw [← eb]; exact c2)]
          simp
        · have c : ss.length ≤ z := by have := of_decide_eq_false c; omega
          unfold beg
          rw [List.getElem?_eq_none c]
      · rintro H1 ⟨sm, hD1⟩
        rw [lenV, List.take_length] at hD1
        have hso := hbs.filter (beg ss s')
        have hsol := hso.len
        -- the result
        refine ⟨_, rfl, D, rfl, ⟨_, SqL.of hD1⟩, fun R hR => ?_⟩
        refine lc_list (xs := intsV (bs.filter (beg ss s'))) (fun i H2 => Same H1 H2 ∧ H2 R = some (.lst (intsV ((((bs.filter (beg ss s')).take i).filter (goesOn ss w')).map fun k => k + 1)))) ⟨same_new hR, upd_same⟩ (fun i H2 _ ⟨sm2, _⟩ => SqL.of (sm2 _ _ hD1)) ?_ ?_
        · rintro i x H2 hi ⟨sm2, hRi⟩
          obtain ⟨z, hz, rfl⟩ := intsV_at hi
          have hi' : i < (bs.filter (beg ss s')).length := (List.getElem?_eq_some_iff.mp hz).1
          have hzb := (List.mem_filter.mp (List.mem_of_getElem? hz)).2
          obtain ⟨s0, hst⟩ : ∃ s0, ss[z]? = some s0 := by
            unfold beg at hzb
            cases e : ss[z]? with
            | none => rw [e] at hzb; cases hzb
            | some s0 => exact ⟨s0, rfl⟩
          obtain ⟨v, hv, hvd⟩ := hSv.get (i := z) (d := stD s0) (by rw [List.getElem?_map, hst]; rfl)
          obtain ⟨sa, rfl, hsa⟩ := stI hvd
          have sm3 := sm.trans sm2
          have hlen : ((((bs.filter (beg ss s')).take i).filter (goesOn ss w')).map fun k => k + 1).length ≤ 1000 := by
            rw [List.length_map]
            exact Nat.le_trans (List.length_filter_le _ _) (by rw [List.length_take]; omega)
          refine ⟨rfl, _, rfl, a, _, 2, _, rfl, rfl, same_seqT sm3 hT, at2, _, rfl, _, rfl, st, _, _, _, rfl, rfl, same_seqT sm3 hS, atI_nat hv, sa, _, 1, _, rfl, rfl, same_seqT sm3 hsa, at1, by show 2 ≤ sizeLine; decide, fun t ht => ?_⟩
          have s4 := same_new (o := .tup [.str "*", .str s0.2.1]) ht
          refine ⟨t, _, rfl, .inr (SqT.of upd_same), rfl, rfl, _, rfl, ?_⟩
          rw [if_neg Bool.false_ne_true]
          have eb : inV (.str w') [.str "*", .str s0.2.1] = goesOn ss w' z := by
            unfold goesOn
            rw [hst]
            rfl
          rw [eb]
          refine ite_b (fun c2 => ?_) (fun c2 => ?_)
          · refine ⟨_, rfl, _, _, rfl, rfl, _, s4 _ _ hRi, by rw [List.length_map]; exact line_lt (by omega), same_put (sm2.trans s4) hR, ?_⟩
            rw [upd_same, take_get hz, List.filter_append, filter_t c2, List.map_append]
            have : ((z : Nat) : Int) + 1 = ((z + 1 : Nat) : Int) := by omega
            show some (HO.lst (_ ++ [V.int (((z : Nat) : Int) + 1)])) = _
            rw [this]
            simp
          · refine ⟨sm2.trans s4, ?_⟩
            rw [take_get hz, List.filter_append, filter_f c2, List.append_nil]
            exact s4 _ _ hRi
        · rintro H2 ⟨sm2, hR2⟩
          rw [lenV, List.take_length] at hR2
          exact q H2 R _ (sm.trans sm2) (SqL.of hR2) (step_few hbs) step_ends
    · -- at
      refine ⟨_, rfl, a, _, 0, _, rfl, rfl, hT, at0, rfl, _, rfl, ite_f (by decide +kernel) ?_⟩
      refine ⟨_, rfl, a, _, 0, _, rfl, rfl, hT, at0, rfl, _, rfl, ite_t (by decide +kernel) ?_⟩
      refine ⟨_, rfl, bg, rfl, ⟨_, hB⟩, fun D hD => ?_⟩
      refine lc_list (xs := intsV bs) (fun i H1 => Same H H1 ∧ H1 D = some (.lst (intsV ((bs.take i).filter fun k => holdsB (.at m') (mks.getD k []))))) ⟨same_new hD, upd_same⟩ (fun i H1 _ ⟨sm, _⟩ => sm.seq hB) ?_ ?_
      · rintro i x H1 hi ⟨sm, hDi⟩
        obtain ⟨z, hz, rfl⟩ := intsV_at hi
        have hi' : i < bs.length := (List.getElem?_eq_some_iff.mp hz).1
        have hzn := hbs.2 z (List.mem_of_getElem? hz)
        have hlen : ((bs.take i).filter fun k => holdsB (.at m') (mks.getD k [])).length ≤ 1000 := Nat.le_trans (List.length_filter_le _ _) (by rw [List.length_take]; omega)
        have hmz : mks[z]? = some (mks.getD z []) := by rw [List.getD_eq_getElem?_getD, List.getElem?_eq_getElem (by omega)]; rfl
        obtain ⟨l, hl1, hl2⟩ := hMv.2 z _ hmz
        refine ⟨rfl, _, rfl, a, _, 1, _, rfl, rfl, same_seqT sm hT, at1, _, rfl, _, rfl, mk, _, _, _, rfl, rfl, sm.seq hMk, atI_nat hl1, l, _, rfl, .inl (sm.seq hl2), rfl, flat_strV _, ?_⟩
        refine ⟨_, rfl, a, _, 0, _, rfl, rfl, same_seqT sm hT, at0, rfl, rfl, _, rfl, ?_⟩
        rw [dec_bl, if_neg Bool.false_ne_true, inV_strs, show decide (V.str "at" = V.str "at") = true by decide +kernel]
        have eb : ((mks.getD z []).any (fun y => y == m') == true) = holdsB (.at m') (mks.getD z []) := by
          show _ = (mks.getD z []).any fun y => y == m'
          cases (mks.getD z []).any fun y => y == m' <;> rfl
        rw [eb]
        refine ite_b (fun c2 => ?_) (fun c2 => ?_)
        · refine ⟨_, rfl, _, hDi, by rw [List.length_map]; exact line_lt (by omega), same_put sm hD, ?_⟩
          rw [upd_same, take_get hz, List.filter_append, filter_t (p := fun k => holdsB (.at m') (mks.getD k [])) c2]
          simp
        · refine ⟨sm, ?_⟩
          rw [take_get hz, List.filter_append, filter_f (p := fun k => holdsB (.at m') (mks.getD k [])) c2, List.append_nil]
          exact hDi
      · rintro H1 ⟨sm, hD1⟩
        rw [lenV, List.take_length] at hD1
        exact q H1 D _ sm (SqL.of hD1) (hbs.filter _) (at_ends fun _ _ => rfl)
    · -- off
      refine ⟨_, rfl, a, _, 0, _, rfl, rfl, hT, at0, rfl, _, rfl, ite_f (by decide +kernel) ?_⟩
      refine ⟨_, rfl, a, _, 0, _, rfl, rfl, hT, at0, rfl, _, rfl, ite_f (by decide +kernel) ?_⟩
      refine ⟨_, rfl, a, _, 0, _, rfl, rfl, hT, at0, rfl, _, rfl, ite_t (by decide +kernel) ?_⟩
      refine ⟨_, rfl, bg, rfl, ⟨_, hB⟩, fun D hD => ?_⟩
      refine lc_list (xs := intsV bs) (fun i H1 => Same H H1 ∧ H1 D = some (.lst (intsV ((bs.take i).filter fun k => holdsB (.off m') (mks.getD k []))))) ⟨same_new hD, upd_same⟩ (fun i H1 _ ⟨sm, _⟩ => sm.seq hB) ?_ ?_
      · rintro i x H1 hi ⟨sm, hDi⟩
        obtain ⟨z, hz, rfl⟩ := intsV_at hi
        have hi' : i < bs.length := (List.getElem?_eq_some_iff.mp hz).1
        have hzn := hbs.2 z (List.mem_of_getElem? hz)
        have hlen : ((bs.take i).filter fun k => holdsB (.off m') (mks.getD k [])).length ≤ 1000 := Nat.le_trans (List.length_filter_le _ _) (by rw [List.length_take]; omega)
        have hmz : mks[z]? = some (mks.getD z []) := by rw [List.getD_eq_getElem?_getD, List.getElem?_eq_getElem (by omega)]; rfl
        obtain ⟨l, hl1, hl2⟩ := hMv.2 z _ hmz
        refine ⟨rfl, _, rfl, a, _, 1, _, rfl, rfl, same_seqT sm hT, at1, _, rfl, _, rfl, mk, _, _, _, rfl, rfl, sm.seq hMk, atI_nat hl1, l, _, rfl, .inl (sm.seq hl2), rfl, flat_strV _, ?_⟩
        refine ⟨_, rfl, a, _, 0, _, rfl, rfl, same_seqT sm hT, at0, rfl, rfl, _, rfl, ?_⟩
        rw [dec_bl, if_neg Bool.false_ne_true, inV_strs, show decide (V.str "off" = V.str "at") = false by decide +kernel]
        have eb : ((mks.getD z []).any (fun y => y == m') == false) = holdsB (.off m') (mks.getD z []) := by
          show _ = !(mks.getD z []).any fun y => y == m'
          cases (mks.getD z []).any fun y => y == m' <;> rfl
        rw [eb]
        refine ite_b (fun c2 => ?_) (fun c2 => ?_)
        · refine ⟨_, rfl, _, hDi, by rw [List.length_map]; exact line_lt (by omega), same_put sm hD, ?_⟩
          rw [upd_same, take_get hz, List.filter_append, filter_t (p := fun k => holdsB (.off m') (mks.getD k [])) c2]
          simp
        · refine ⟨sm, ?_⟩
          rw [take_get hz, List.filter_append, filter_f (p := fun k => holdsB (.off m') (mks.getD k [])) c2, List.append_nil]
          exact hDi
      · rintro H1 ⟨sm, hD1⟩
        rw [lenV, List.take_length] at hD1
        exact q H1 D _ sm (SqL.of hD1) (hbs.filter _) (at_ends fun _ _ => rfl)
  · -- then
    obtain ⟨a, b, xs, rfl, hT, hT2, hxs⟩ := thnI hP
    simp only [dps] at hd
    refine ⟨_, rfl, a, _, 0, _, rfl, rfl, hT, at0, rfl, _, rfl, ite_f (by decide +kernel) ?_⟩
    refine ⟨_, rfl, a, _, 0, _, rfl, rfl, hT, at0, rfl, _, rfl, ite_f (by decide +kernel) ?_⟩
    refine ⟨_, rfl, a, _, 0, _, rfl, rfl, hT, at0, rfl, _, rfl, ite_f (by decide +kernel) ?_⟩
    refine ⟨_, rfl, a, _, 0, _, rfl, rfl, hT, at0, rfl, _, rfl, ite_f (by decide +kernel) ?_⟩
    refine ⟨_, rfl, a, _, 0, _, rfl, rfl, hT, at0, rfl, _, rfl, ite_t (by decide +kernel) ?_⟩
    refine ⟨_, rfl, a, _, 1, _, rfl, rfl, hT, at1, b, rfl, ⟨_, hT2⟩, ?_⟩
    refine for_tup (xs := xs) (fun i σ H' => ∃ (o6 : Option V) (r : Addr) (zs : List Nat), σ = [some (.ref a), some (.ref st), some (.ref mk), some (.ref r), none, none, o6, none, none] ∧ Same H H' ∧ SqL K H' r (intsV zs) ∧ Few ss.length zs ∧ ∀ z, z ∈ zs ↔ ∃ b ∈ bs, FitAll (oneAt mks ss) (ps.take i) b z)
      ⟨none, bg, bs, rfl, Same.refl H, hB, hbs, fun z => ?_⟩ ?_ ?_ ?_
    · rw [List.take_zero]
      simp only [FitAll]
      exact ⟨fun h => ⟨z, h, rfl⟩, fun ⟨b, hb, e⟩ => e ▸ hb⟩
    · rintro i σ H' _ ⟨_, _, _, _, sm, _⟩
      exact same_seqT sm hT2
    · rintro i x σ H' hi ⟨o6, r, zs, rfl, sm, hr, hf, hz⟩
      obtain ⟨p, hp, hx⟩ := hxs.mapGet hi
      have hpd := dps_mem (List.mem_of_getElem? hp)
      refine ⟨_, rfl, _, rfl, _, rfl, _, rfl, _, st, mk, r, p, sv, mv, ss, mks, zs, rfl, hx.same sm, by omega, same_seqT sm hS, hSv.same sm, sm.seq hMk, hMv.same sm, hml, hsl, hr, hf, fun H1 r1 ys s1 hr1 hf1 hy => ?_⟩
      refine ⟨_, r1, ys, rfl, sm.trans s1, hr1, hf1, fun z => ?_⟩
      rw [hy z, take_get hp]
      simp only [fitAll_snoc]
      constructor
      · rintro ⟨y, hy, h⟩
        obtain ⟨b, hb, h'⟩ := (hz y).mp hy
        exact ⟨b, hb, y, h', h⟩
      · rintro ⟨b, hb, y, h', h⟩
        exact ⟨y, (hz y).mpr ⟨b, hb, h'⟩, h⟩
    · rintro σ H' ⟨o6, r, zs, rfl, sm, hr, hf, hz⟩
      refine ⟨_, rfl, q H' r zs sm hr hf fun z => ?_⟩
      rw [hz z, hxs.mapLen, List.take_length]
      simp only [Fit]
  · -- either
    obtain ⟨a, b, xs, rfl, hT, hT2, hxs⟩ := eitI hP
    simp only [dps] at hd
    refine ⟨_, rfl, a, _, 0, _, rfl, rfl, hT, at0, rfl, _, rfl, ite_f (by decide +kernel) ?_⟩
    refine ⟨_, rfl, a, _, 0, _, rfl, rfl, hT, at0, rfl, _, rfl, ite_f (by decide +kernel) ?_⟩
    refine ⟨_, rfl, a, _, 0, _, rfl, rfl, hT, at0, rfl, _, rfl, ite_f (by decide +kernel) ?_⟩
    refine ⟨_, rfl, a, _, 0, _, rfl, rfl, hT, at0, rfl, _, rfl, ite_f (by decide +kernel) ?_⟩
    refine ⟨_, rfl, a, _, 0, _, rfl, rfl, hT, at0, rfl, _, rfl, ite_f (by decide +kernel) ?_⟩
    refine ⟨by show 0 ≤ sizeLine; decide, fun f0 hf0 => ?_⟩
    have s0 : Same H (upd H f0 (.lst [])) := same_new hf0
    refine ⟨_, rfl, a, _, 0, _, rfl, rfl, same_seqT s0 hT, at0, rfl, _, rfl, ite_t (by decide +kernel) ?_⟩
    refine ⟨_, rfl, a, _, 1, _, rfl, rfl, same_seqT s0 hT, at1, b, rfl, ⟨_, same_seqT s0 hT2⟩, ?_⟩
    refine for_tup (xs := xs) (fun i σ H' => ∃ (o6 : Option V) (r : Addr) (zs : List Nat), σ = [some (.ref a), some (.ref st), some (.ref mk), some (.ref bg), none, none, o6, some (.ref r), none] ∧ Same H H' ∧ H' r = some (.lst (intsV zs)) ∧ Few ss.length zs ∧ ∀ z, z ∈ zs ↔ ∃ b ∈ bs, FitAny (oneAt mks ss) (ps.take i) b z)
      ⟨none, f0, [], rfl, s0, upd_same, ⟨List.nodup_nil, fun z hz => by cases hz⟩, fun z => ?_⟩ ?_ ?_ ?_
    · rw [List.take_zero]
      simp only [FitAny]
      exact ⟨fun h => (by cases h), fun ⟨b, hb, e⟩ => e.elim⟩
    · rintro i σ H' _ ⟨_, _, _, _, sm, _⟩
      exact same_seqT sm hT2
    · rintro i x σ H' hi ⟨o6, r, zs, rfl, sm, hr, hf, hz⟩
      obtain ⟨p, hp, hx⟩ := hxs.mapGet hi
      have hpd := dps_mem (List.mem_of_getElem? hp)
      have hfl := hf.len
      refine ⟨_, rfl, _, rfl, _, rfl, _, rfl, _, rfl, _, st, mk, bg, p, sv, mv, ss, mks, bs, rfl, hx.same sm, by omega, same_seqT sm hS, hSv.same sm, sm.seq hMk, hMv.same sm, hml, hsl, sm.seq hB, hbs, fun H1 r1 ys s1 hr1 hf1 hy => ?_⟩
      have hfl1 := hf1.len
      refine ⟨r1, rfl, ⟨_, hr1⟩, fun D hD => ?_⟩
      refine lc_list (xs := intsV ys) (fun i H2 => Same H1 H2 ∧ H2 D = some (.lst (intsV ((ys.take i).filter fun z => decide (z ∉ zs))))) ⟨same_new hD, upd_same⟩ (fun i H2 _ ⟨sm2, _⟩ => sm2.seq hr1) ?_ ?_
      · rintro j x H2 hj ⟨sm2, hDi⟩
        obtain ⟨z, hzj, rfl⟩ := intsV_at hj
        have hlen : ((ys.take j).filter fun z => decide (z ∉ zs)).length ≤ 1000 := Nat.le_trans (List.length_filter_le _ _) (by rw [List.length_take]; omega)
        refine ⟨rfl, _, rfl, _, rfl, r, _, rfl, .inl (SqL.of (sm2 _ _ (s1 _ _ hr))), rfl, flat_intsV zs, _, rfl, ?_⟩
        rw [if_pos rfl, inV_nat]
        have eb : (!decide (z ∈ zs)) = decide (z ∉ zs) := by by_cases e : z ∈ zs <;> simp [e]
        rw [eb]
        refine ite_b (fun c2 => ?_) (fun c2 => ?_)
        · refine ⟨_, rfl, _, hDi, by rw [List.length_map]; exact line_lt (by omega), same_put sm2 hD, ?_⟩
          rw [upd_same, take_get hzj, List.filter_append, filter_t (p := fun z => decide (z ∉ zs)) c2]
          simp
        · refine ⟨sm2, ?_⟩
          rw [take_get hzj, List.filter_append, filter_f (p := fun z => decide (z ∉ zs)) c2, List.append_nil]
          exact hDi
      · rintro H2 ⟨sm2, hD2⟩
        rw [lenV, List.take_length] at hD2
        have hr2 := sm2 _ _ (s1 _ _ hr)
        have hadd := hf.add hf1
        have hal := hadd.len
        rw [List.length_append] at hal
        refine ⟨r, D, _, _, rfl, rfl, hr2, hD2, by rw [lenV, lenV]; exact line_big (by omega), fun g hg => ?_⟩
        refine ⟨_, g, zs ++ ys.filter fun z => decide (z ∉ zs), rfl, ((sm.trans s1).trans sm2).trans (same_new hg), by rw [upd_same]; simp, hadd, fun z => ?_⟩
        rw [mem_add, hz z, hy z, take_get hp]
        simp only [fitAny_snoc]
        constructor
        · rintro (⟨b, hb, h⟩ | ⟨b, hb, h⟩)
          · exact ⟨b, hb, .inl h⟩
          · exact ⟨b, hb, .inr h⟩
        · rintro ⟨b, hb, h | h⟩
          · exact .inl ⟨b, hb, h⟩
          · exact .inr ⟨b, hb, h⟩
    · rintro σ H' ⟨o6, r, zs, rfl, sm, hr, hf, hz⟩
      refine ⟨_, rfl, q H' r zs sm (SqL.of hr) hf fun z => ?_⟩
      rw [hz z, hxs.mapLen, List.take_length]
      simp only [Fit]
  · -- many
    obtain ⟨a, pvw, rfl, hT, hP'⟩ := manyI hP
    simp only [dps] at hd
    refine ⟨_, rfl, a, _, 0, _, rfl, rfl, hT, at0, rfl, _, rfl, ite_f (by decide +kernel) ?_⟩
    refine ⟨_, rfl, a, _, 0, _, rfl, rfl, hT, at0, rfl, _, rfl, ite_f (by decide +kernel) ?_⟩
    refine ⟨_, rfl, a, _, 0, _, rfl, rfl, hT, at0, rfl, _, rfl, ite_f (by decide +kernel) ?_⟩
    refine ⟨_, rfl, a, _, 0, _, rfl, rfl, hT, at0, rfl, _, rfl, ite_f (by decide +kernel) ?_⟩
    refine ⟨_, rfl, a, _, 0, _, rfl, rfl, hT, at0, rfl, _, rfl, ite_f (by decide +kernel) ?_⟩
    refine ⟨by show 0 ≤ sizeLine; decide, fun f0 hf0 => ?_⟩
    have s0 : Same H (upd H f0 (.lst [])) := same_new hf0
    refine ⟨_, rfl, a, _, 0, _, rfl, rfl, same_seqT s0 hT, at0, rfl, _, rfl, ite_f (by decide +kernel) ?_⟩
    refine ⟨_, rfl, bg, _, rfl, .inl (s0.seq hB), fun f1 hf1 => ?_⟩
    have s1 := s0.trans (same_new (o := .lst (intsV bs)) hf1)
    refine ⟨_, rfl, ?_⟩
    -- while many < len(found)
    refine ⟨fun mm σ H' => ∃ (r : Addr) (zs ys : List Nat) (c : Int), σ = [some (.ref a), some (.ref st), some (.ref mk), some (.ref bg), none, none, none, some (.ref r), some (.int c)] ∧ Same H H' ∧ H' r = some (.lst (intsV zs)) ∧ Few ss.length zs ∧ (∀ z ∈ zs, ∃ b ∈ bs, Star (FitP mks ss p) b z) ∧ (∀ b ∈ bs, b ∈ zs) ∧
        (c = -1 ∨ (c = (ys.length : Nat) ∧ (∃ more, zs = ys ++ more) ∧ ∀ y ∈ ys, ∀ z, FitP mks ss p y z → z ∈ zs)) ∧ mm = (((ss.length : Nat) : Int) + 1 - c).toNat,
      ⟨_, f1, bs, [], -1, rfl, s1, upd_same, hbs, fun z hz => ⟨z, hz, .refl z⟩, fun b hb => hb, .inl rfl, rfl⟩, ?_⟩
    rintro mm σ H2 ⟨r, zs, ys, c, rfl, sm, hr, hf, hA, hBs, hc, emm⟩
    have hfl := hf.len
    refine ⟨_, rfl, _, rfl, r, _, rfl, .inl (SqL.of hr), _, _, rfl, rfl, _, rfl, ?_⟩
    rw [lenV]
    refine ite_b (fun cc => ?_) (fun cc => ?_)
    · have cc : c < (zs.length : Nat) := of_decide_eq_true cc
      have hc0 : -1 ≤ c := by rcases hc with h | ⟨h, _⟩ <;> omega
      refine ⟨fun σ' H' => ∃ mm', mm' < mm ∧ ∃ (r : Addr) (zs ys : List Nat) (c : Int), σ' = [some (.ref a), some (.ref st), some (.ref mk), some (.ref bg), none, none, none, some (.ref r), some (.int c)] ∧ Same H H' ∧ H' r = some (.lst (intsV zs)) ∧ Few ss.length zs ∧ (∀ z ∈ zs, ∃ b ∈ bs, Star (FitP mks ss p) b z) ∧ (∀ b ∈ bs, b ∈ zs) ∧
        (c = -1 ∨ (c = (ys.length : Nat) ∧ (∃ more, zs = ys ++ more) ∧ ∀ y ∈ ys, ∀ z, FitP mks ss p y z → z ∈ zs)) ∧ mm' = (((ss.length : Nat) : Int) + 1 - c).toNat, fun _ _ h => h, ?_⟩
      refine ⟨_, rfl, r, _, rfl, .inl (SqL.of hr), ?_⟩
      refine ⟨_, rfl, _, rfl, a, _, 1, _, rfl, rfl, same_seqT sm hT, at1, _, rfl, _, rfl, _, rfl, ?_⟩
      refine ⟨_, st, mk, r, p, sv, mv, ss, mks, zs, rfl, hP'.same sm, by omega, same_seqT sm hS, hSv.same sm, sm.seq hMk, hMv.same sm, hml, hsl, SqL.of hr, hf, fun H1 r1 ns s1 hr1 hf1 hy => ?_⟩
      have hfl1 := hf1.len
      refine ⟨r1, rfl, ⟨_, hr1⟩, fun D hD => ?_⟩
      refine lc_list (xs := intsV ns) (fun i H2 => Same H1 H2 ∧ H2 D = some (.lst (intsV ((ns.take i).filter fun z => decide (z ∉ zs))))) ⟨same_new hD, upd_same⟩ (fun i H2 _ ⟨sm2, _⟩ => sm2.seq hr1) ?_ ?_
      · rintro j x H2 hj ⟨sm2, hDi⟩
        obtain ⟨z, hzj, rfl⟩ := intsV_at hj
        have hlen : ((ns.take j).filter fun z => decide (z ∉ zs)).length ≤ 1000 := Nat.le_trans (List.length_filter_le _ _) (by rw [List.length_take]; omega)
        refine ⟨rfl, _, rfl, _, rfl, r, _, rfl, .inl (SqL.of (sm2 _ _ (s1 _ _ hr))), rfl, flat_intsV zs, _, rfl, ?_⟩
        rw [if_pos rfl, inV_nat]
        have eb : (!decide (z ∈ zs)) = decide (z ∉ zs) := by by_cases e : z ∈ zs <;> simp [e]
        rw [eb]
        refine ite_b (fun c2 => ?_) (fun c2 => ?_)
        · refine ⟨_, rfl, _, hDi, by rw [List.length_map]; exact line_lt (by omega), same_put sm2 hD, ?_⟩
          rw [upd_same, take_get hzj, List.filter_append, filter_t (p := fun z => decide (z ∉ zs)) c2]
          simp
        · refine ⟨sm2, ?_⟩
          rw [take_get hzj, List.filter_append, filter_f (p := fun z => decide (z ∉ zs)) c2, List.append_nil]
          exact hDi
      · rintro H3 ⟨sm2, hD2⟩
        rw [lenV, List.take_length] at hD2
        have hr2 := sm2 _ _ (s1 _ _ hr)
        have hadd := hf.add hf1
        have hal := hadd.len
        rw [List.length_append] at hal
        refine ⟨r, D, _, _, rfl, rfl, hr2, hD2, by rw [lenV, lenV]; exact line_big (by omega), fun g hg => ?_⟩
        refine ⟨_, ?_, g, zs ++ ns.filter fun z => decide (z ∉ zs), zs, _, rfl, ((sm.trans s1).trans sm2).trans (same_new hg), by rw [upd_same]; simp, hadd, fun z hz => ?_, fun b hb => List.mem_append_left _ (hBs b hb), .inr ⟨by rw [lenV], ⟨_, rfl⟩, fun y hy' z hz => ?_⟩, rfl⟩
        · rw [lenV]
          omega
        · rcases mem_add.mp hz with h | h
          · exact hA z h
          · obtain ⟨y, hy', h'⟩ := (hy z).mp h
            obtain ⟨b, hb, hst⟩ := hA y hy'
            exact ⟨b, hb, hst.tail h'⟩
        · exact mem_add.mpr (.inr ((hy z).mpr ⟨y, hy', hz⟩))
    · have cc : (zs.length : Nat) ≤ c := by have := of_decide_eq_false cc; omega
      refine ⟨_, rfl, q H2 r zs sm (SqL.of hr) hf fun z => ?_⟩
      simp only [Fit]
      refine closed_star hA hBs (fun y hy' t ht => ?_) z
      rcases hc with h | ⟨h, ⟨more, h2⟩, h3⟩
      · omega
      · have : more = [] := by
          have := congrArg List.length h2
          rw [List.length_append] at this
          exact List.eq_nil_of_length_eq_zero (by omega)
        rw [this, List.append_nil] at h2
        exact h3 y (h2 ▸ hy') t ht
end
end PK
set_option Elab.async false
set_option linter.all false
set_option maxRecDepth 100000
set_option autoImplicit false
set_option maxHeartbeats 4000000
/-! The law's word on a way: fits. -/
namespace PK
open PySem PySem.Spec PyProof.Rows L2
section
variable {P : Program} {w : World} {K : PySem.W.Frag} {mg : Str → Option Value} {base : Heap}

abbrev sfits : Stmt := top 33
abbrev Nscfits : List Str := ["_law_rows_here", "_law_pattern_here", "_law_way", "_law_marks_here", "_law_step"]
theorem scfits : FnScope Nscfits ["_law_rows_here", "_law_pattern_here", "_law_way"] (defScope sfits) := ⟨rfl, rfl, rfl, by decide +kernel, rfl, by decide +kernel, by decide +kernel⟩
def spFits (K : PySem.W.Frag) : Sp := fun vs H Q _ => ∃ (r : Addr) (pvv wv : V) (p : Pt) (ks : List (Str × List Str)) (ts : List Step) (k : Str) (ss : List Step) (mk : List Str) (mks : List (List Str)), vs = [.ref r, pvv, wv] ∧ RowsAt K H r ks ts ∧ Dt K H pvv (patD p) ∧ dps p ≤ 10 ∧ Dt K H wv (wayD k ss) ∧ ss.length ≤ 50 ∧
  (k, mk) ∈ ks ∧ ss.length = mks.length ∧ (∀ (i : Nat) s m, ss[i]? = some s → mks[i]? = some m → (s.2.2, m) ∈ ks) ∧
  ∀ (H' : Hp) (b : Bool), Same H H' → (b = true ↔ FitP (mk :: mks) ss p 0 ss.length) → Q (.bl b) H'
theorem ok_fits {f : Addr} {fd : FuncData} {n : Nat} (F : Fun K "_law_fits" "_law_fits" sfits f fd) (G : Gs K mg) (D_law_ends : Def P w K mg base n "_law_ends" ["_law_pattern_here", "_law_steps_here", "_law_marks_here", "_law_begins"] (spEnds K 10)) :
    FnOk P w K mg base CX0 (n + 1) f fd ["_law_rows_here", "_law_pattern_here", "_law_way"] (spFits K) := by
  refine F.ok scfits (fun vs H Q E h => ?_) (fun cdv A outer s H vs Q E hr h => ?_)
  · obtain ⟨r, pvv, wv, p, ks, ts, k, ss, mk, mks, rfl, _⟩ := h
    rfl
  obtain ⟨r, pvv, wv, p, ks, ts, k, ss, mk, mks, rfl, hR, hP, hd, hV, hsl, hk, hlen, hat, q⟩ := h
  refine ⟨_, (pss_cons (ps_set (i := 3) scfits.nd rfl (Or.inl rfl) (pe_op op_cat (pe_lst (pa_cons (pe_dget (hu_of hr) (pe_ix ix_tup (pv 0) pe_int (fun _ _ => rfl)) (pe_ix ix_tup (pv 2) pe_int (fun _ _ => rfl)) (fun _ _ => rfl)) pa_nil)) (pe_lc (own := [("_law_step", 4)]) rfl scfits.nd (pi_tup (pe_ix ix_tup (pv 2) pe_int (fun _ _ => rfl))) (blkOk_by (N := Nscfits) (sc := defScope sfits) (by decide +kernel)) (fun _ _ _ _ _ => (pg_name (i := 4) scfits.nd rfl (Or.inl rfl))) (fun _ _ _ _ _ => pts_nil) (fun _ _ _ _ _ => (pe_dget (hu_of hr) (pe_ix (r := rIxT K) ix_tup (pv 0) pe_int (fun _ _ => rfl)) (pe_ix (r := rIxT K) ix_tup (pv 4) pe_int (fun _ _ => rfl)) (fun _ _ => rfl)))))) (pss_one (ps_ret (pe_cmpR op_in_seq (pe_callB call_len_seq (by rfl) G.len PySem.boot_len (pa_cons (pe_ix ix_tup (pv 2) pe_int (fun _ _ => rfl)) pa_nil)) (pe_def D_law_ends (hr.mono (by omega)) rfl (pa_cons (pv 1) (pa_cons (pe_ix ix_tup (pv 2) pe_int (fun _ _ => rfl)) (pa_cons (pv 3) (pa_cons (pe_lst (pa_cons pe_int pa_nil)) pa_nil))))) (by with_unfolding_all rfl))))), ?_⟩
  obtain ⟨b, c, sv, rfl, w1, w2, w3⟩ := wayI hV
  obtain ⟨rd, rl, kvs, tv, r1, r2, r3, r4, r5, r6⟩ := hR
  obtain ⟨m0, g1, g2⟩ := r4 _ hk
  have look : ∀ i, i < mks.length → ∃ l, (∃ s m, ss[i]? = some s ∧ mks[i]? = some m ∧ valV kvs (Sum.inr s.2.2) = some (.ref l) ∧ H l = some (.lst (m.map V.str))) := fun i hi => by
    have h1 : ss[i]? = some (ss[i]'(by omega)) := List.getElem?_eq_getElem (by omega)
    have h2 : mks[i]? = some mks[i] := List.getElem?_eq_getElem hi
    obtain ⟨l, q1, q2⟩ := r4 _ (hat i _ _ h1 h2)
    exact ⟨l, _, _, h1, h2, q1, q2⟩
  -- [rows[0][way[0]]]
  refine ⟨_, rfl, r, _, 0, _, rfl, rfl, r1, at0, _, rfl, b, _, 0, _, rfl, rfl, w1, at0, rd, _, rfl, by rw [← g1]; exact DGet.k (k := Sum.inr k) r2, by show 1 ≤ sizeLine; decide, fun l1 hl1 => ?_⟩
  have s1 : Same H (upd H l1 (.lst [.ref m0])) := same_new hl1
  -- [rows[0][step[2]] for step in way[1]]
  refine ⟨_, rfl, b, _, 1, _, rfl, rfl, same_seqT s1 w1, at1, c, rfl, ⟨_, same_seqT s1 w2⟩, fun D hD => ?_⟩
  have n1D : l1 ≠ D := fun e => by rw [← e, upd_same] at hD; cases hD
  refine lc_tup (xs := sv) (fun i H1 => Same (upd H l1 (.lst [.ref m0])) H1 ∧ ∃ mv : List V, H1 D = some (.lst mv) ∧ MarksAt K H mv (mks.take i)) ⟨same_new hD, [], upd_same, by rw [List.take_zero]; exact ⟨rfl, fun i m h => by simp at h⟩⟩ (fun i H1 _ ⟨sm, _⟩ => same_seqT (s1.trans sm) w2) ?_ ?_
  · rintro i x H1 hi ⟨sm, mv, hDi, hMv⟩
    have hi' : i < ss.length := by have := (List.getElem?_eq_some_iff.mp hi).1; rw [w3.mapLen] at this; exact this
    obtain ⟨l, s0, m, hs0, hm, q1, q2⟩ := look i (by omega)
    obtain ⟨s0', hs0', hx⟩ := w3.mapGet hi
    rw [hs0] at hs0'
    cases hs0'
    obtain ⟨sa, rfl, hsa⟩ := stI hx
    have sm2 := s1.trans sm
    have hlm : mv.length = i := by rw [hMv.1, List.length_take]; omega
    refine ⟨rfl, _, rfl, r, _, 0, _, rfl, rfl, same_seqT sm2 r1, at0, _, rfl, sa, _, 2, _, rfl, rfl, same_seqT sm2 hsa, at2, rd, _, rfl, by rw [← q1]; exact DGet.k (k := Sum.inr s0.2.2) (sm2 _ _ r2), ?_⟩
    refine ⟨_, hDi, line_lt (by omega), same_put sm hD, _, upd_same, ?_⟩
    rw [take_get hm]
    refine ⟨by rw [List.length_append, List.length_append, hMv.1]; rfl, fun j mj hj => ?_⟩
    by_cases hji : j < i
    · rw [List.getElem?_append_left (by rw [List.length_take]; omega)] at hj
      rw [List.getElem?_append_left (by omega)]
      exact hMv.2 j mj hj
    · have hj2 : j = i := by
        have := (List.getElem?_eq_some_iff.mp hj).1
        rw [List.length_append, List.length_take, List.length_singleton] at this
        omega
      subst hj2
      rw [List.getElem?_append_right (by rw [List.length_take]; omega), show j - (mks.take j).length = 0 by rw [List.length_take]; omega] at hj
      rw [List.getElem?_append_right (by omega), show j - mv.length = 0 by omega]
      cases Option.some.inj hj
      exact ⟨l, rfl, SqL.of q2⟩
  · rintro H1 ⟨sm, mv, hD1, hMv⟩
    have hmm : mks.take sv.length = mks := by rw [w3.mapLen, hlen, List.take_length]
    rw [hmm] at hMv
    have hlm := hMv.1
    refine ⟨l1, D, _, _, rfl, rfl, sm _ _ upd_same, hD1, by show 1 + mv.length ≤ sizeLine; exact line_big (by omega), fun M hM => ?_⟩
    have s2 : Same H (upd H1 M (.lst ([V.ref m0] ++ mv))) := (s1.trans sm).trans (same_new hM)
    refine ⟨_, rfl, b, _, 1, _, rfl, rfl, same_seqT s2 w1, at1, c, _, rfl, .inr (same_seqT s2 w2), ?_⟩
    refine ⟨_, rfl, _, rfl, b, _, 1, _, rfl, rfl, same_seqT s2 w1, at1, _, rfl, by show 1 ≤ sizeLine; decide, fun z hz => ?_⟩
    have s3 := s2.trans (same_new (o := .lst [.int 0]) hz)
    refine ⟨pvv, c, M, z, p, sv, .ref m0 :: mv, ss, mk :: mks, [0], rfl, hP.same s3, hd, same_seqT s3 w2, w3.same s3, ?_, ?_, by rw [List.length_cons, hlen], hsl, SqL.of upd_same, ⟨by simp, fun z hz => by rw [List.mem_singleton.mp hz]; exact Nat.zero_le _⟩, ?_⟩
    · exact SqL.of (same_new hz _ _ upd_same)
    · refine ⟨by rw [List.length_cons, List.length_cons, hlm], fun j mj hj => ?_⟩
      cases j with
      | zero =>
        cases Option.some.inj hj
        exact ⟨m0, rfl, SqL.of (s3 _ _ g2)⟩
      | succ j =>
        obtain ⟨l, q1, q2⟩ := hMv.2 j mj hj
        exact ⟨l, q1, s3.seq q2⟩
    · intro H' r' zs s4 hr' hf hz'
      refine ⟨r', _, rfl, .inl hr', rfl, flat_intsV zs, ?_⟩
      rw [if_neg Bool.false_ne_true, w3.mapLen, inV_nat]
      refine q H' _ (s3.trans s4) ?_
      rw [decide_eq_true_eq, hz']
      constructor
      · rintro ⟨b, hb, h⟩
        rw [List.mem_singleton.mp hb] at h
        exact h
      · exact fun h => ⟨0, List.mem_singleton.mpr rfl, h⟩
end
end PK
set_option Elab.async false
set_option linter.all false
set_option maxRecDepth 100000
set_option autoImplicit false
set_option maxHeartbeats 2000000
/-! Dicts whose keys are moves; sorted lists of data. -/
namespace PK
open PySem PySem.Spec PyProof.Rows L2

mutual
def keyD : PyData → NestedKey
  | .bool b => .num (if b = true then 1 else 0)
  | .int i => .num i
  | .str x => .text x
  | .tuple ds => .tup (keyDs ds)
  | .none => .none
  | .list _ => .none
  | .dict _ => .none
def keyDs : List PyData → List NestedKey
  | [] => []
  | d :: ds => keyD d :: keyDs ds
end
section
variable {X : Cx} {pins : List (Addr × Obj)} {σ : L2.St} {H : Hp} {s : Shared}
mutual
theorem Dt.nested (I : Inv X pins σ H s) : ∀ (d : PyData) (v : V) (u : Value), Dt X.K H v d → RelV v u → NestedIs s.heap (keyD d) u
  | .bool b, _, _, h, r => by
    cases h
    cases r
    exact .bool rfl
  | .int i, _, _, h, r => by
    cases h
    obtain ⟨t, rfl⟩ := r
    exact .int i t
  | .str x, _, _, h, r => by
    cases h
    obtain ⟨t, rfl⟩ := r
    exact .text x t
  | .tuple ds, _, _, h, r => by
    cases h with
    | tup hs ha =>
      cases r
      obtain ⟨its, rv, ⟨o, ho, hc, n, hd⟩, _⟩ := I.tuple hs
      exact .tup ho hc hd (DtAll.nested I ds _ its ha rv)
  | .none, _, _, h, _ => by cases h
  | .list _, _, _, h, _ => by cases h
  | .dict _, _, _, h, _ => by cases h
theorem DtAll.nested (I : Inv X pins σ H s) : ∀ (ds : List PyData) (vs : List V) (us : List Value), DtAll X.K H vs ds → Vals vs us → NestedAll s.heap (keyDs ds) us
  | [], _, _, h, r => by
    cases h
    cases r
    exact .nil
  | d :: ds, _, _, h, r => by
    cases h with
    | cons h1 h2 =>
      cases r with
      | cons r1 r2 => exact .cons (Dt.nested I d _ _ h1 r1) (DtAll.nested I ds _ _ h2 r2)
end
mutual
/-- a datum without lists reads off no list -/
theorem Dt.reads0 (I : Inv X pins σ H s) : ∀ (d : PyData) (v : V) (u : Value), Dt X.K H v d → RelV v u → Reads s.heap u d []
  | .bool b, _, _, h, r => by
    cases h
    cases r
    exact .bool b
  | .int i, _, _, h, r => by
    cases h
    obtain ⟨t, rfl⟩ := r
    exact .int i t
  | .str x, _, _, h, r => by
    cases h
    obtain ⟨t, rfl⟩ := r
    exact .str x t
  | .tuple ds, _, _, h, r => by
    cases h with
    | tup hs ha =>
      cases r
      obtain ⟨its, rv, ⟨o, ho, hc, n, hd⟩, _⟩ := I.tuple hs
      exact .tuple ho hc hd (DtAll.reads0 I ds _ its ha rv)
  | .none, _, _, h, _ => by cases h
  | .list _, _, _, h, _ => by cases h
  | .dict _, _, _, h, _ => by cases h
theorem DtAll.reads0 (I : Inv X pins σ H s) : ∀ (ds : List PyData) (vs : List V) (us : List Value), DtAll X.K H vs ds → Vals vs us → ReadsAll s.heap us ds []
  | [], _, _, h, r => by
    cases h
    cases r
    exact .nil
  | d :: ds, _, _, h, r => by
    cases h with
    | cons h1 h2 =>
      cases r with
      | cons r1 r2 => exact .cons (Dt.reads0 I d _ _ h1 r1) (DtAll.reads0 I ds _ _ h2 r2)
end
end
abbrev mvK (e : Mv) : NestedKey := keyD (mvD e)
theorem leafK_inj : ∀ {l m : Leaf}, keyD (leafD l) = keyD (leafD m) → l = m := by
  intro l m h
  cases l <;> cases m <;> simp [leafD, keyD, keyDs] at h <;> first | rfl | skip
  · obtain ⟨h1, h2⟩ := h
    subst h1
    subst h2
    rfl
  · subst h
    rfl
  · exact absurd h.1 (by decide +kernel)
  · exact absurd h.1 (by decide +kernel)
  · subst h
    rfl
theorem mvK_inj {e f : Mv} (h : mvK e = mvK f) : e = f := by
  obtain ⟨a, l, b⟩ := e
  obtain ⟨a', l', b'⟩ := f
  simp only [mvK, mvD, keyD, keyDs, NestedKey.tup.injEq, List.cons.injEq, NestedKey.num.injEq, and_true] at h
  obtain ⟨h1, h2, h3⟩ := h
  have e1 : a = a' := by omega
  have e3 : b = b' := by omega
  rw [e1, leafK_inj h2, e3]
theorem mvK_depth (e : Mv) : (mvK e).depth ≤ 8 := by
  obtain ⟨a, l, b⟩ := e
  cases l <;> simp [mvK, mvD, leafD, keyD, keyDs, NestedKey.depth, NestedKey.depthAll]
def ents (w : World) (L : List (Addr × Mv)) : List DictEntry := L.map fun x => ⟨(mvK x.2).hash w, .ref x.1, .bool true⟩
/-- the dict at d: its entries, raw -/
def NDO (w : World) (d : Addr) (L : List (Addr × Mv)) : HO := .ext fun h => ∃ o es ep, h.get? d = some o ∧ o.ExactDict ∧ o.data = .dict es ep ∧ es.toList = ents w L
structure NDict (w : World) (K : PySem.W.Frag) (H : Hp) (d : Addr) (L : List (Addr × Mv)) : Prop where
  at_ : H d = some (NDO w d L)
  lo : (d == sysModules) = false
  nd : (L.map (·.2)).Nodup
  keys : ∀ x ∈ L, Dt K H (.ref x.1) (mvD x.2)
theorem NDict.keep {w : World} {K : PySem.W.Frag} {H H' : Hp} {d : Addr} {L : List (Addr × Mv)} (h : NDict w K H d L) (k : KeepT K H H') (e : H' d = H d) : NDict w K H' d L :=
  ⟨by rw [e]; exact h.at_, h.lo, h.nd, fun x hx => (h.keys x hx).keep k⟩
theorem NDict.same {w : World} {K : PySem.W.Frag} {H H' : Hp} {d : Addr} {L : List (Addr × Mv)} (h : NDict w K H d L) (e : Same H H') : NDict w K H' d L :=
  ⟨e _ _ h.at_, h.lo, h.nd, fun x hx => (h.keys x hx).same e⟩
def insL (L : List (Addr × Mv)) (a : Addr) (e : Mv) : List (Addr × Mv) := if e ∈ L.map (·.2) then L else L ++ [(a, e)]
theorem insL_mvs (L : List (Addr × Mv)) (a : Addr) (e : Mv) : (insL L a e).map (·.2) = insS (L.map (·.2)) e := by
  unfold insL
  by_cases h : e ∈ L.map (·.2)
  · rw [if_pos h, insS_old h]
  · rw [if_neg h, insS_new h, List.map_append]
    rfl
/-- {} -/
def tDNewN (w : World) : TE := fun _ H Q => ∀ p, H p = none → (p == sysModules) = false → Q (.ref p) (upd H p (NDO w p []))
def rSetN (w : World) (K : PySem.W.Frag) : V → V → V → Hp → (Hp → Prop) → Prop := fun o i v H Q => ∃ d a e L, o = .ref d ∧ i = .ref a ∧ v = .bl true ∧ NDict w K H d L ∧ Dt K H (.ref a) (mvD e) ∧ L.length ≤ 1000 ∧ ∀ H' : Hp, H' = upd H d (NDO w d (insL L a e)) → Q H'
section
variable {X : Cx} {pos : Pos}
theorem ndo_ok {P : Program} {w : World} {H : Hp} {h : Heap} {d : Addr} {L : List (Addr × Mv)} {o : Obj} {es : Array DictEntry} {ep : Nat} (h1 : h.get? d = some o) (h2 : o.ExactDict) (h3 : o.data = .dict es ep) (h4 : es.toList = ents w L) : ObjOk P w H h d (NDO w d L) :=
  ⟨⟨o, es, ep, h1, h2, h3, h4⟩, ⟨o, h1⟩, fun _ _ ⟨o, es, ep, q1, q2, q3, q4⟩ k => ⟨o, es, ep, k _ q1, q2, q3, q4⟩⟩
theorem pe_dnewN : PE X (.Dict [] [] pos) (tDNewN X.w) := ⟨fun pins s σ H Q I h =>
  wpAny_Dict_empty ⟨.ref s.heap.objs.size, _, I.laid (a := s.heap.objs.size) (o := NDO X.w s.heap.objs.size []) (t' := s.toks) (fun _ _ q => Heap.get?_push_of_some _ q) (Nat.le_refl _)
    (ndo_ok (es := #[]) (ep := 0) (Heap.get?_push_size _ rfl) ⟨rfl, rfl, rfl⟩ rfl rfl), rfl, h _ (I.hok.fresh (Nat.le_refl _)) (beq_eq_false_iff_ne.mpr (Ne.symm (Nat.ne_of_lt I.big)))⟩⟩
/-- as the kit's kind of dict -/
def rows (L : List (Addr × Mv)) : List (NestedKey × Addr × Value) := L.map fun x => (mvK x.2, x.1, .bool true)
theorem atKey_rows (L : List (Addr × Mv)) (e : Mv) : (atKey (rows L) (mvK e)).isSome = decide (e ∈ L.map (·.2)) := by
  induction L with
  | nil => rfl
  | cons x L ih =>
    by_cases h : x.2 = e
    · have : (atKey (rows (x :: L)) (mvK e)).isSome = true := by
        unfold atKey rows
        rw [List.map_cons, List.find?_cons, decide_eq_true (show mvK x.2 = mvK e by rw [h])]
        rfl
      rw [this, eq_comm, decide_eq_true_eq, List.map_cons, h]
      exact List.mem_cons_self
    · have h1 : atKey (rows (x :: L)) (mvK e) = atKey (rows L) (mvK e) := by
        unfold atKey rows
        rw [List.map_cons, List.find?_cons, decide_eq_false (show ¬ mvK x.2 = mvK e from fun z => h (mvK_inj z))]
      rw [h1, ih, decide_eq_decide, List.map_cons, List.mem_cons]
      exact ⟨.inr, fun z => z.elim (fun z => absurd z.symm h) id⟩
theorem rows_stored (L : List (Addr × Mv)) (a : Addr) (e : Mv) : storedH (rows L) (mvK e) a (.bool true) = rows (insL L a e) := by
  unfold storedH insL
  rw [atKey_rows]
  by_cases h : e ∈ L.map (·.2)
  · rw [if_pos (decide_eq_true h), if_pos h]
    unfold rows
    rw [List.map_map]
    refine List.map_congr_left fun x _ => ?_
    show putAt (mvK e) (.bool true) (mvK x.2, x.1, .bool true) = _
    unfold putAt
    split <;> rfl
  · rw [if_neg (by rw [decide_eq_true_eq]; exact h), if_neg h]
    unfold rows
    rw [List.map_append]
    rfl
theorem NDict.dictH {pins : List (Addr × Obj)} {σ : L2.St} {H : Hp} {s : Shared} {d : Addr} {L : List (Addr × Mv)} (I : Inv X pins σ H s) (h : NDict X.w X.K H d L) : s.heap.DictOfH (nestedKind X.prog X.w) d (rows L) := by
  obtain ⟨⟨o, es, ep, h1, h2, h3, h4⟩, _⟩ := I.hok d _ h.at_
  refine ⟨o, es, ep, h1, h2, h3, ?_, fun x hx => ?_, ?_⟩
  · rw [h4]
    unfold ents rows
    rw [List.map_map]
    rfl
  · obtain ⟨y, hy, rfl⟩ := List.mem_map.mp hx
    exact ⟨Dt.nested I _ _ _ (h.keys y hy) rfl, mvK_depth _⟩
  · have e : (rows L).map (·.1) = (L.map (·.2)).map mvK := by
      unfold rows
      rw [List.map_map, List.map_map]
      rfl
    rw [e]
    exact List.Pairwise.map mvK (fun a b (hn : a ≠ b) z => hn (mvK_inj z)) h.nd
theorem set_nd (hu : X.A.units + 64 < cLine) : PSet X (rSetN X.w X.K) := by
  intro pins s σ H o i v ov iv u Q I ro ri rv h
  obtain ⟨d, a, e, L, rfl, rfl, rfl, hN, ha, hl, q⟩ := h
  cases ro
  cases ri
  cases rv
  refine wpAny_setItem_heap (knd := nestedKind X.prog X.w) (k := mvK e) (xs := rows L) (by show X.A.units + 1 + 8 < cLine; omega) ⟨Dt.nested I _ _ _ ha rfl, mvK_depth _⟩ (hN.dictH I) (fun h' hm hs => ?_) (by unfold rows; rw [List.length_map]; exact line_big (by omega))
  rw [rows_stored] at hm
  obtain ⟨o', es, ep, h1, h2, h3, h4, _⟩ := hm
  refine ⟨_, I.write (x := d) (e := d) (by rw [hN.at_]; trivial) (.inl rfl) (fun b u hb q => (hs.2 b hb).trans q) ⟨_, h1⟩ (ndo_ok h1 h2 h3 ?_), q _ rfl⟩
  rw [h4]
  unfold ents rows
  rw [List.map_map]
  rfl

/-! sorted -/
theorem vals_each {K : PySem.W.Frag} {H : Hp} {α : Type} {enc : α → PyData} : ∀ {us : List Value} {bs : List α}, PySem.W.EachIs (fun u b => ∃ v, RelV v u ∧ Dt K H v (enc b)) us bs → ∃ vs, Vals vs us ∧ DtAll K H vs (bs.map enc)
  | _, _, .nil => ⟨[], .nil, .nil⟩
  | _, _, .cons ⟨v, r, h⟩ t => by
    obtain ⟨vs, q1, q2⟩ := vals_each t
    exact ⟨v :: vs, .cons r q1, .cons h q2⟩
theorem each_vals {K : PySem.W.Frag} {H : Hp} {α : Type} {enc : α → PyData} : ∀ {vs : List V} {us : List Value} {bs : List α}, Vals vs us → DtAll K H vs (bs.map enc) → PySem.W.EachIs (fun u b => ∃ v, RelV v u ∧ Dt K H v (enc b)) us bs
  | _, _, [], r, h => by
    have h' : DtAll K H _ [] := h
    cases h'
    cases r
    exact .nil
  | _, _, b :: bs, r, h => by
    have h' : DtAll K H _ (enc b :: bs.map enc) := h
    cases h' with
    | cons h1 h2 =>
      cases r with
      | cons r1 r2 => exact .cons ⟨_, r1, h1⟩ (each_vals r2 h2)
/-- how data are sorted -/
structure Ord (α : Type) (enc : α → PyData) : Prop where
  al : ∀ a b, PySem.W.alike (enc a) (enc b) = true
  tp : ∀ a, ∃ x r, enc a = .tuple (x :: r)
  dp : ∀ a, (enc a).depth ≤ 8
abbrev srt {α : Type} (enc : α → PyData) (bs : List α) : List α := bs.mergeSort (PySem.W.dataLe false enc)
def rSortL (K : PySem.W.Frag) {α : Type} (enc : α → PyData) : List V → Hp → VK → Prop := fun xs H Q => ∃ (a : Addr) (vs : List V) (bs : List α), xs = [.ref a] ∧ SqL K H a vs ∧ DtAll K H vs (bs.map enc) ∧ bs.length ≤ 1000 ∧
  ∀ (p : Addr) (ys : List V), H p = none → DtAll K H ys ((srt enc bs).map enc) → Q (.ref p) (upd H p (.lst ys))
theorem cr_sortedL {α : Type} {enc : α → PyData} (O : Ord α enc) (hu : X.A.units + 64 < cLine) : CallR X (.builtin "sorted") (rSortL X.K enc) := by
  intro pins s σ H xs us Q I r h
  obtain ⟨a, vs, bs, rfl, hq, hd, hl, q⟩ := h
  obtain ⟨u, rfl, rx⟩ := r.one
  cases rx
  obtain ⟨its, rv, pl, hz⟩ := I.list hq
  have e := each_vals rv hd
  refine PySem.W.sorted_data (R := fun u b => ∃ v, RelV v u ∧ Dt X.K H v (enc b)) (enc := enc) (bs := bs) pl.isList e (e.mono fun u b ⟨v, r, h⟩ => ⟨[], Dt.reads0 I _ _ _ h r⟩) (PySem.W.AllAlike.of O.al) (PySem.W.Sortable.tuples O.tp) (line_big (by omega)) (fun b _ => by have := O.dp b; omega) fun out ho eo => ?_
  obtain ⟨ys, r1, r2⟩ := vals_each eo
  obtain ⟨c, hc⟩ := sortedAll_at s.heap its out.toArray
  have hlen : ys.length ≤ sizeLine := by
    rw [r1.length, ho]
    exact line_big (by omega)
  exact ⟨.ref (s.heap.objs.size + 1), _, I.laid (t' := s.toks) (o := .lst ys) (fun b o e => sortedAll_old e) (Nat.le_succ _) ⟨hlen, out, c, r1, hc⟩, rfl, q _ _ (I.hok.fresh (Nat.le_succ _)) r2⟩
theorem leaf_al : ∀ l m : Leaf, PySem.W.alike (leafD l) (leafD m) = true := by
  intro l m
  cases l <;> cases m <;> simp [leafD, PySem.W.alike, PySem.W.alikeAll]
theorem mvOrd : Ord Mv mvD where
  al := fun a b => by
    obtain ⟨i, l, j⟩ := a
    obtain ⟨i', l', j'⟩ := b
    have := leaf_al l l'
    simp [mvD, PySem.W.alike, PySem.W.alikeAll, this]
  tp := fun a => ⟨_, _, rfl⟩
  dp := fun a => by
    obtain ⟨i, l, j⟩ := a
    cases l <;> simp [mvD, leafD, PyData.depth, PyData.depthAll]
theorem stOrd : Ord Step stD where
  al := fun a b => by simp [stD, PySem.W.alike, PySem.W.alikeAll]
  tp := fun a => ⟨_, _, rfl⟩
  dp := fun a => by simp [stD, PyData.depth, PyData.depthAll]
/-- sorted(d), d a dict with moves for keys -/
def rSortN (w : World) (K : PySem.W.Frag) : List V → Hp → VK → Prop := fun xs H Q => ∃ (d : Addr) (L : List (Addr × Mv)), xs = [.ref d] ∧ NDict w K H d L ∧ L.length ≤ 1000 ∧
  ∀ (p : Addr) (ys : List V), H p = none → DtAll K H ys ((srt mvD (L.map (·.2))).map mvD) → Q (.ref p) (upd H p (.lst ys))
theorem cr_sortedN (hc : X.calm = true) (hu : X.A.units + 64 < cLine) : CallR X (.builtin "sorted") (rSortN X.w X.K) := by
  intro pins s σ H xs us Q I r h
  obtain ⟨d, L, rfl, hN, hl, q⟩ := h
  obtain ⟨u, rfl, rx⟩ := r.one
  cases rx
  obtain ⟨⟨o, es, ep, h1, h2, h3, h4⟩, _⟩ := I.hok d _ hN.at_
  have hes : es.size = L.length := by rw [← Array.length_toList, h4, ents, List.length_map]
  refine Calls.call_function_entry PyProof.Rows.kind_sorted PyProof.Rows.plain_sorted PyProof.Rows.entry_sorted (PyProof.Rows.args_sorted1 _) ?_
  unfold Builtin.«sorted»
  refine wpAny_bind (m := checkCount "sorted" 1 1 _) (wpAny_pure ?_)
  refine wpAny_bind (PySem.W.kdu_collect (A := X.A.in1) (kdl_raw hN.lo h2 h3) (I.ok.hd hc) h1 (by rw [hes]; exact line_big (by omega)) fun h' tk acc hk hacc => ?_)
  have hal : acc.toList.length = L.length := by rw [Array.length_toList, hacc.1, hes]
  have ea : acc.toList = L.map fun x => Value.ref x.1 := by
    apply List.ext_getElem?
    intro j
    rw [List.getElem?_map]
    cases hj : acc.toList[j]? with
    | none =>
      have h1 := List.getElem?_eq_none_iff.mp hj
      rw [List.getElem?_eq_none (by omega)]
      rfl
    | some v =>
      obtain ⟨en, hen, hv⟩ := hacc.2 j v (by rw [← Array.getElem?_toList]; exact hj)
      rw [← Array.getElem?_toList, h4, ents, List.getElem?_map] at hen
      cases hb : L[j]? with
      | none => rw [hb] at hen; cases hen
      | some b =>
        rw [hb] at hen
        cases hen
        rw [hv]
        rfl
  have I1 : Inv X pins σ H { s with heap := h', toks := tk } := I.kept hk
  have hd : DtAll X.K H ((L.map (·.1)).map V.ref) ((L.map (·.2)).map mvD) := by
    refine DtAll.of (by simp) fun i v b hv hb => ?_
    rw [List.getElem?_map, List.getElem?_map] at hv hb
    cases hx : L[i]? with
    | none => rw [hx] at hv; cases hv
    | some x =>
      rw [hx] at hv hb
      cases hv
      cases hb
      exact hN.keys x (List.mem_of_getElem? hx)
  have rv : Vals ((L.map (·.1)).map V.ref) acc.toList := by
    rw [ea, show (L.map fun x => Value.ref x.1) = (L.map (·.1)).map Value.ref by rw [List.map_map]; rfl]
    exact vals_refs _
  have e := each_vals rv hd
  refine wpAny_bind (wpAny_newList ?_ (by rw [hal]; exact line_big (by omega)))
  have hoL : (h'.push (seqObj "list" acc.toList.toArray 0)).get? h'.objs.size = some (seqObj "list" acc.toList.toArray 0) := Heap.get?_push_size _ rfl
  show wpAny _ _ _ _ _ { s with heap := h'.push (seqObj "list" acc.toList.toArray 0), toks := tk }
  refine wpAny_bind (wpAny_holding (PySem.W.list_sort_data (s := { s with heap := h'.push (seqObj "list" acc.toList.toArray 0), toks := tk }) (R := fun u b => ∃ v, RelV v u ∧ Dt X.K H v (mvD b)) (enc := mvD) (bs := L.map (·.2)) hoL e
    (e.mono fun u b ⟨v, r, h⟩ => ⟨[], PyProof.Rows.Reads.keeps (fun _ _ q => Heap.get?_push_of_some _ q) (Dt.reads0 I1 _ _ _ h r), List.not_mem_nil⟩) (PySem.W.AllAlike.of mvOrd.al) (PySem.W.Sortable.tuples mvOrd.tp) (by rw [List.length_map]; exact line_big (by omega))
    (fun b _ => by have := mvOrd.dp b; show X.A.units + 1 + 1 + _ < cLine; omega) fun out ho eo => ?_))
  obtain ⟨ys, r1, r2⟩ := vals_each eo
  obtain ⟨e', he'⟩ := PyProof.Rows.sortedHeap_at (vs := acc.toList) (out := out.toArray) hoL
  have hlen : ys.length ≤ sizeLine := by
    rw [r1.length, ho, List.length_map]
    exact line_big (by omega)
  refine wpAny_pure ⟨_, rfl, .ref h'.objs.size, upd H h'.objs.size (.lst ys), I1.laid (t' := tk) (fun b u e => ?_) (Nat.le_refl _)
    (show ObjOk X.prog X.w _ _ _ (.lst ys) from ⟨hlen, out, e', r1, he'⟩), rfl, q _ _ (I1.hok.fresh (Nat.le_refl _)) r2⟩
  have hb : b < h'.objs.size := Heap.lt_size e
  rw [PyProof.Rows.sortedHeap_old (Nat.ne_of_lt hb) (by rw [size_push']; exact Nat.lt_succ_of_lt hb)]
  exact Heap.get?_push_of_some _ e
end
end PK
set_option Elab.async false
set_option linter.all false
set_option maxRecDepth 100000
set_option autoImplicit false
/-! A maker while it works; what a pattern's machine is. -/
namespace PK
open PySem PySem.Spec PyProof.Rows L2

/-! ### patterns can be compared -/
theorem strs_ok : (sidesL ++ (wordsW ++ marksL)).all (fun x => PyData.strOk x) = true := by decide +kernel
theorem str_ok {x : Str} (h : x ∈ sidesL ∨ x ∈ wordsW ∨ x ∈ marksL) : PyData.strOk x = true := by
  refine List.all_eq_true.mp strs_ok x ?_
  rw [List.mem_append, List.mem_append]
  exact h
theorem leaf_lay {l : Leaf} (h : LeafOk l) : (leafD l).canLay0 = true := by
  cases l with
  | stay => decide +kernel
  | step s w =>
    have h1 := str_ok (.inl h.1)
    have h2 := str_ok (.inr (.inl h.2))
    simp only [leafD, PyData.canLay0, PyData.canLayAll0, h1, h2, Bool.and_true]
    decide +kernel
  | «at» m =>
    have h1 := str_ok (.inr (.inr h))
    simp only [leafD, PyData.canLay0, PyData.canLayAll0, h1, Bool.and_true]
    decide +kernel
  | off m =>
    have h1 := str_ok (.inr (.inr h))
    simp only [leafD, PyData.canLay0, PyData.canLayAll0, h1, Bool.and_true]
    decide +kernel
theorem leaf_depth (l : Leaf) : (leafD l).depth = 1 := by
  cases l <;> simp [leafD, PyData.depth, PyData.depthAll]
theorem ok_then : PyData.strOk "then" = true := by decide +kernel
theorem ok_either : PyData.strOk "either" = true := by decide +kernel
theorem ok_many : PyData.strOk "many" = true := by decide +kernel
mutual
theorem pat_lay : ∀ p : Pt, LOk p → (patD p).canLay0 = true
  | .leaf l, h => by
    simp only [LOk] at h
    rw [patD]
    exact leaf_lay h
  | .thn ps, h => by
    simp only [LOk] at h
    simp only [patD, PyData.canLay0, PyData.canLayAll0, pats_lay ps h, ok_then, Bool.and_true]
  | .eit ps, h => by
    simp only [LOk] at h
    simp only [patD, PyData.canLay0, PyData.canLayAll0, pats_lay ps h, ok_either, Bool.and_true]
  | .many p, h => by
    simp only [LOk] at h
    simp only [patD, PyData.canLay0, PyData.canLayAll0, pat_lay p h, ok_many, Bool.and_true]
theorem pats_lay : ∀ ps : List Pt, LOkAll ps → PyData.canLayAll0 (patDs ps) = true
  | [], _ => by simp only [patDs, PyData.canLayAll0]
  | p :: ps, h => by
    simp only [LOkAll] at h
    simp only [patDs, PyData.canLayAll0, pat_lay p h.1, pats_lay ps h.2, Bool.and_true]
end
mutual
theorem pat_depth : ∀ p : Pt, (patD p).depth ≤ 2 * dps p
  | .leaf l => by
    rw [patD, leaf_depth]
    simp [dps]
  | .thn ps => by
    have := pats_depth ps
    simp only [patD, PyData.depth, PyData.depthAll, dps]
    omega
  | .eit ps => by
    have := pats_depth ps
    simp only [patD, PyData.depth, PyData.depthAll, dps]
    omega
  | .many p => by
    have := pat_depth p
    simp only [patD, PyData.depth, PyData.depthAll, dps]
    omega
theorem pats_depth : ∀ ps : List Pt, PyData.depthAll (patDs ps) ≤ 2 * dpsAll ps
  | [] => by simp [patDs, PyData.depthAll]
  | p :: ps => by
    have h1 := pat_depth p
    have h2 := pats_depth ps
    simp only [patDs, PyData.depthAll, dpsAll]
    omega
end
theorem shaped_pats {ps : List Pt} (h : LOkAll ps) (hd : dpsAll ps ≤ 20) : SeqAt.shaped (.tuple (ps.map patD)) = true := by
  rw [← patDs_map]
  unfold SeqAt.shaped
  rw [Bool.and_eq_true, decide_eq_true_eq]
  have := pats_depth ps
  exact ⟨by rw [PyData.canLay0]; exact pats_lay ps h, by rw [PyData.depth]; omega⟩

/-! ### the moves of a pattern -/
abbrev layP (p : Pt) (a b n : Nat) : List Mv × Nat := lay Leaf.stay p a b n
abbrev rowP (ps : List Pt) (a b n : Nat) : List Mv × Nat := layRow Leaf.stay ps a b n
abbrev eitP (ps : List Pt) (a b n : Nat) : List Mv × Nat := layEit Leaf.stay ps a b n
theorem rowP_two (p q : Pt) (ps : List Pt) (a b n : Nat) : rowP (p :: q :: ps) a b n = ((layP p a n (n + 1)).1 ++ (rowP (q :: ps) n b (layP p a n (n + 1)).2).1, (rowP (q :: ps) n b (layP p a n (n + 1)).2).2) := by
  simp only [rowP, layP, layRow]
mutual
theorem lay_len : ∀ (p : Pt) (a b n : Nat), (layP p a b n).1.length = eds p
  | .leaf l, a, b, n => by simp only [layP, lay, eds, List.length_singleton]
  | .thn ps, a, b, n => by simp only [layP, lay, eds]; exact row_len ps a b n
  | .eit ps, a, b, n => by simp only [layP, lay, eds]; exact eit_len ps a b n
  | .many p, a, b, n => by
    have := lay_len p n n (n + 1)
    simp only [layP] at this
    simp only [layP, lay, eds, List.length_cons, this]
theorem eit_len : ∀ (ps : List Pt) (a b n : Nat), (eitP ps a b n).1.length = edsAll ps
  | [], a, b, n => by simp only [eitP, layEit, edsAll, List.length_nil]
  | p :: ps, a, b, n => by
    have h1 := lay_len p a b n
    have h2 := eit_len ps a b (layP p a b n).2
    simp only [layP, eitP] at h1 h2
    simp only [eitP, layEit, edsAll, List.length_append, h1, h2]
theorem row_len : ∀ (ps : List Pt) (a b n : Nat), (rowP ps a b n).1.length = if ps.isEmpty then 1 else edsAll ps
  | [], a, b, n => by simp only [rowP, layRow, List.length_singleton, List.isEmpty_nil, if_true]
  | [p], a, b, n => by
    have h1 := lay_len p a b n
    simp only [layP] at h1
    simp only [rowP, layRow, h1, List.isEmpty_cons, Bool.false_eq_true, if_false, edsAll, Nat.add_zero]
  | p :: q :: ps, a, b, n => by
    have h1 := lay_len p a n (n + 1)
    have h2 := row_len (q :: ps) n b (layP p a n (n + 1)).2
    rw [rowP_two]
    simp only [List.isEmpty_cons, Bool.false_eq_true, if_false] at h2 ⊢
    rw [List.length_append, h1, h2]
    simp only [edsAll]
end
mutual
theorem lay_next : ∀ (p : Pt) (a b n : Nat), (layP p a b n).2 = n + frs p
  | .leaf l, a, b, n => by simp only [layP, lay, frs, Nat.add_zero]
  | .thn ps, a, b, n => by simp only [layP, lay, frs]; exact row_next ps a b n
  | .eit ps, a, b, n => by simp only [layP, lay, frs]; exact eit_next ps a b n
  | .many p, a, b, n => by
    have := lay_next p n n (n + 1)
    simp only [layP] at this
    simp only [layP, lay, frs, this]
    omega
theorem eit_next : ∀ (ps : List Pt) (a b n : Nat), (eitP ps a b n).2 = n + frsAll ps
  | [], a, b, n => by simp only [eitP, layEit, frsAll, Nat.add_zero]
  | p :: ps, a, b, n => by
    have h1 := lay_next p a b n
    have h2 := eit_next ps a b (layP p a b n).2
    simp only [layP, eitP] at h1 h2
    simp only [eitP, layEit, frsAll]
    rw [h2, h1]
    omega
theorem row_next : ∀ (ps : List Pt) (a b n : Nat), (rowP ps a b n).2 = n + (frsAll ps + (ps.length - 1))
  | [], a, b, n => by simp only [rowP, layRow, frsAll, List.length_nil]; omega
  | [p], a, b, n => by
    have h1 := lay_next p a b n
    simp only [layP] at h1
    simp only [rowP, layRow, h1, frsAll, List.length_singleton]
    omega
  | p :: q :: ps, a, b, n => by
    have h1 := lay_next p a n (n + 1)
    have h2 := row_next (q :: ps) n b (layP p a n (n + 1)).2
    rw [rowP_two]
    show (rowP (q :: ps) n b (layP p a n (n + 1)).2).2 = _
    rw [h2, h1]
    simp only [frsAll, List.length_cons]
    omega
end
theorem frs_mem : ∀ {ps : List Pt} {p : Pt}, p ∈ ps → frs p ≤ frsAll ps
  | [], _, h => by cases h
  | q :: ps, p, hp => by
    simp only [frsAll]
    rcases List.mem_cons.mp hp with rfl | hp
    · omega
    · have := frs_mem hp
      omega
/-- what is put in, each once -/
def insAll {α : Type} [DecidableEq α] (ks : List α) (xs : List α) : List α := xs.foldl insS ks
section
variable {α : Type} [DecidableEq α]
theorem insAll_append (ks xs ys : List α) : insAll ks (xs ++ ys) = insAll (insAll ks xs) ys := List.foldl_append
theorem mem_insAll {z : α} : ∀ {xs ks : List α}, z ∈ insAll ks xs ↔ z ∈ ks ∨ z ∈ xs
  | [], ks => by simp [insAll]
  | x :: xs, ks => by
    show z ∈ insAll (insS ks x) xs ↔ _
    rw [mem_insAll, mem_insS, List.mem_cons, or_assoc]
theorem nodup_insAll : ∀ {xs ks : List α}, ks.Nodup → (insAll ks xs).Nodup
  | [], _, h => h
  | x :: xs, ks, h => nodup_insAll (xs := xs) (nodup_insS h)
theorem length_insAll : ∀ (xs ks : List α), (insAll ks xs).length ≤ ks.length + xs.length
  | [], _ => Nat.le_refl _
  | x :: xs, ks => by
    have h1 := length_insAll xs (insS ks x)
    have h2 := length_insS ks x
    show (insAll (insS ks x) xs).length ≤ _
    rw [List.length_cons]
    omega
end
/-- the moves of a pattern's machine, its stands -/
def mvsOf (p : Pt) : List Mv := srt mvD (insAll [] (layP p 0 1 2).1)
def nOf (p : Pt) : Nat := (layP p 0 1 2).2

/-! ### the maker -/
structure MkC (K : PySem.W.Frag) (C : Addr) : Prop where
  cl : Cls K C
  n1 : NoAttr K C "size"
  n2 : NoAttr K C "laid"
theorem mn1 : ¬ (("size" : Str) = "laid") := by decide +kernel
def mkF (n : Nat) (d : Addr) : List (Str × V) := [("size", .int (n : Nat)), ("laid", .ref d)]
theorem mkF_new (d : Addr) : putF "laid" (.ref d) (putF "size" (.int 2) []) = mkF 2 d := by
  show putF "laid" (.ref d) [(("size" : Str), V.int 2)] = _
  show (if ("size" : Str) = "laid" then _ else (("size" : Str), V.int 2) :: putF "laid" (.ref d) []) = _
  rw [if_neg mn1]
  rfl
theorem mkF_size (n : Nat) (d : Addr) : (mkF n d).lookup ("size" : Str) = some (.int (n : Nat)) := by
  unfold mkF
  rw [List.lookup_cons, beq_self_eq_true]
theorem mkF_laid (n : Nat) (d : Addr) : (mkF n d).lookup ("laid" : Str) = some (.ref d) := by
  unfold mkF
  rw [List.lookup_cons, show (("laid" : Str) == "size") = false by decide +kernel, List.lookup_cons, beq_self_eq_true]
theorem mkF_no (n : Nat) (d : Addr) {m : Str} (h1 : (m == "size") = false) (h2 : (m == "laid") = false) : (mkF n d).lookup m = none := by
  unfold mkF
  rw [List.lookup_cons, h1, List.lookup_cons, h2]
  rfl
theorem mkF_put (n m : Nat) (d : Addr) : putF "size" (.int (m : Nat)) (mkF n d) = mkF m d := by
  show (if ("size" : Str) = "size" then (("size" : Str), V.int (m : Nat)) :: [(("laid" : Str), V.ref d)] else _) = _
  rw [if_pos rfl]
  rfl
/-- behind H0 a maker stands at p: next free stand n, laid moves L -/
def MkAt (w : World) (K : PySem.W.Frag) (C : Addr) (H0 H : Hp) (p : Addr) (n : Nat) (L : List (Addr × Mv)) : Prop :=
  Same H0 H ∧ H0 p = none ∧ ∃ (d dx : Addr), H0 d = none ∧ H p = some (.ins C dx (mkF n d)) ∧ NDict w K H d L
theorem MkAt.mono {w : World} {K : PySem.W.Frag} {C : Addr} {H0 H H' : Hp} {p : Addr} {n : Nat} {L : List (Addr × Mv)} (h : MkAt w K C H0 H p n L) (e : Same H H') : MkAt w K C H0 H' p n L := by
  obtain ⟨s0, p0, d, dx, d0, hp, hN⟩ := h
  exact ⟨s0.trans e, p0, d, dx, d0, e _ _ hp, hN.same e⟩
/-- a move is put in -/
theorem MkAt.put {w : World} {K : PySem.W.Frag} {C : Addr} {H0 H : Hp} {p d dx : Addr} {n : Nat} {L : List (Addr × Mv)} (s0 : Same H0 H) (p0 : H0 p = none) (d0 : H0 d = none) (hp : H p = some (.ins C dx (mkF n d))) (hN : NDict w K H d L) {a : Addr} {e : Mv} (ha : Dt K H (.ref a) (mvD e)) {H' : Hp} (eH : H' = upd H d (NDO w d (insL L a e))) :
    MkAt w K C H0 H' p n (insL L a e) := by
  subst eH
  have kp : KeepT K H (upd H d (NDO w d (insL L a e))) := keepT_upd (fun xs h => by rw [hN.at_] at h; cases h) (fun ob xs h => by rw [hN.at_] at h; cases h)
  refine ⟨same_put s0 d0, p0, d, dx, d0, ?_, ⟨upd_same, hN.lo, ?_, fun x hx => ?_⟩⟩
  · rw [upd_ne (ne_of hp hN.at_ (by intro z; cases z))]
    exact hp
  · rw [insL_mvs]
    exact nodup_insS hN.nd
  · unfold insL at hx
    split at hx
    · exact (hN.keys x hx).keep kp
    · rcases List.mem_append.mp hx with hx | hx
      · exact (hN.keys x hx).keep kp
      · rw [List.mem_singleton.mp hx]
        exact ha.keep kp
end PK
set_option Elab.async false
set_option linter.all false
set_option maxRecDepth 100000
set_option autoImplicit false
set_option maxHeartbeats 4000000
/-! Maker -/
namespace PK
open PySem PySem.Spec PyProof.Rows L2
section
variable {P : Program} {w : World} {K : PySem.W.Frag} {mg : Str → Option Value} {base : Heap}

abbrev sMaker_init : Stmt := inClass (top 3) 0
abbrev NscMaker_init : List Str := ["self"]
theorem scMaker_init : FnScope NscMaker_init ["self"] (defScope sMaker_init) := ⟨rfl, rfl, rfl, by decide +kernel, rfl, by decide +kernel, by decide +kernel⟩
def spMInit (w : World) (K : PySem.W.Frag) (C : Addr) : Sp := fun vs H Q _ => ∃ (H0 : Hp) (p dx : Addr), vs = [.ref p] ∧ Same H0 H ∧ H0 p = none ∧ H p = some (.ins C dx []) ∧ ∀ H' : Hp, MkAt w K C H0 H' p 2 [] → Q .non H'
theorem ok_mInit {f C : Addr} {fd : FuncData} (F : Fun K "__init__" "Maker.__init__" sMaker_init f fd) (ClMaker : MkC K C) : FnOk P w K mg base CX0 1 f fd ["self"] (spMInit w K C) := by
  refine F.ok scMaker_init (fun vs H Q E h => ?_) (fun cdv A outer s H vs Q E hr h => ?_)
  · obtain ⟨H0, p, dx, rfl, _⟩ := h
    rfl
  obtain ⟨H0, p, dx, rfl, s0, p0, hp, q⟩ := h
  refine ⟨_, (pss_cons (ps_fld (pv 0) pe_int rfl) (pss_one (ps_fld (pv 0) pe_dnewN rfl))), ?_⟩
  refine ⟨_, rfl, p, C, dx, [], rfl, hp, ClMaker.cl, ClMaker.n1, by show 0 < 1000; decide, ?_⟩
  intro d nd lo
  have npd : p ≠ d := fun e => by rw [← e, upd_same] at nd; cases nd
  refine ⟨_, rfl, p, C, dx, _, rfl, (by rw [upd_ne npd, upd_same]), ClMaker.cl, ClMaker.n2, by show 1 < 1000; decide, ?_⟩
  rw [mkF_new]
  have fd0 : H d = none := by rw [upd_ne npd.symm] at nd; exact nd
  refine q _ ⟨fun b o e => ?_, p0, d, dx, s0.free fd0, upd_same, ⟨?_, lo, List.nodup_nil, fun x hx => by cases hx⟩⟩
  · have e' := s0 _ _ e
    have nb : b ≠ p := fun z => by rw [z, p0] at e; cases e
    rw [upd_ne nb, upd_ne (ne_of_none e' fd0), upd_ne nb]
    exact e'
  · rw [upd_ne npd.symm, upd_same]
    rfl

abbrev sMaker_fresh : Stmt := inClass (top 3) 1
abbrev NscMaker_fresh : List Str := ["self"]
theorem scMaker_fresh : FnScope NscMaker_fresh ["self"] (defScope sMaker_fresh) := ⟨rfl, rfl, rfl, by decide +kernel, rfl, by decide +kernel, by decide +kernel⟩
def spFresh (w : World) (K : PySem.W.Frag) (C : Addr) : Sp := fun vs H Q _ => ∃ (H0 : Hp) (p : Addr) (n : Nat) (L : List (Addr × Mv)), vs = [.ref p] ∧ MkAt w K C H0 H p n L ∧ ∀ H' : Hp, MkAt w K C H0 H' p (n + 1) L → Q (.int (n : Nat)) H'
theorem ok_fresh {f C : Addr} {fd : FuncData} (F : Fun K "fresh" "Maker.fresh" sMaker_fresh f fd) (ClMaker : MkC K C) : FnOk P w K mg base CX0 1 f fd ["self"] (spFresh w K C) := by
  refine F.ok scMaker_fresh (fun vs H Q E h => ?_) (fun cdv A outer s H vs Q E hr h => ?_)
  · obtain ⟨H0, p, n, L, rfl, _⟩ := h
    rfl
  obtain ⟨H0, p, n, L, rfl, ⟨s0, p0, d, dx, d0, hp, hN⟩, q⟩ := h
  refine ⟨_, (pss_cons (ps_fld (pv 0) (pe_op op_add (pe_fld (pv 0) rfl) pe_int) rfl) (pss_one (ps_ret (pe_op op_sub (pe_fld (pv 0) rfl) pe_int)))), ?_⟩
  refine ⟨_, rfl, p, C, dx, _, _, rfl, hp, ClMaker.cl, ClMaker.n1, mkF_size _ _, _, _, rfl, rfl, ?_⟩
  have e1 : ((n : Nat) : Int) + 1 = ((n + 1 : Nat) : Int) := by omega
  refine ⟨_, rfl, p, C, dx, _, rfl, hp, ClMaker.cl, ClMaker.n1, by show 2 < 1000; decide, ?_⟩
  show (fun H' => _) (upd H p (.ins C dx (putF "size" (.int (((n : Nat) : Int) + 1)) (mkF n d))))
  rw [e1, mkF_put]
  refine ⟨_, rfl, p, C, dx, _, _, rfl, upd_same, ClMaker.cl, ClMaker.n1, mkF_size _ _, _, _, rfl, rfl, ?_⟩
  have e2 : ((n + 1 : Nat) : Int) - 1 = ((n : Nat) : Int) := by omega
  show Q (.int (((n + 1 : Nat) : Int) - 1)) _
  rw [e2]
  refine q _ ⟨same_put s0 p0, p0, d, dx, d0, upd_same, hN.keep (keepT_upd (fun xs h => by rw [hp] at h; cases h) (fun ob xs h => by rw [hp] at h; cases h)) ?_⟩
  exact upd_ne (ne_of hN.at_ hp (by intro z; cases z))

def spLay (w : World) (K : PySem.W.Frag) (C : Addr) (n : Nat) : Sp := fun vs H Q _ => ∃ (H0 : Hp) (p : Addr) (pvv : V) (a b nx : Nat) (L : List (Addr × Mv)) (pt : Pt), vs = [.ref p, pvv, .int (a : Nat), .int (b : Nat)] ∧ MkAt w K C H0 H p nx L ∧ Dt K H0 pvv (patD pt) ∧ LOk pt ∧ dps pt ≤ n ∧ n ≤ 20 ∧ frs pt ≤ 100 ∧ L.length + (layP pt a b nx).1.length ≤ 900 ∧
  ∀ (H' : Hp) (L' : List (Addr × Mv)), MkAt w K C H0 H' p (layP pt a b nx).2 L' → L'.map (·.2) = insAll (L.map (·.2)) (layP pt a b nx).1 → Q .non H'
def spRow (w : World) (K : PySem.W.Frag) (C : Addr) (n : Nat) : Sp := fun vs H Q _ => ∃ (H0 : Hp) (p t : Addr) (xs : List V) (a b nx : Nat) (L : List (Addr × Mv)) (ps : List Pt), vs = [.ref p, .ref t, .int (a : Nat), .int (b : Nat)] ∧ MkAt w K C H0 H p nx L ∧ SqT K H0 t xs ∧ DtAll K H0 xs (ps.map patD) ∧ LOkAll ps ∧ dpsAll ps ≤ n ∧ n ≤ 20 ∧ frsAll ps + (ps.length - 1) ≤ 100 ∧ L.length + (rowP ps a b nx).1.length ≤ 900 ∧
  ∀ (H' : Hp) (L' : List (Addr × Mv)), MkAt w K C H0 H' p (rowP ps a b nx).2 L' → L'.map (·.2) = insAll (L.map (·.2)) (rowP ps a b nx).1 → Q .non H'

abbrev sMaker_lay_row : Stmt := inClass (top 3) 3
abbrev NscMaker_lay_row : List Str := ["self", "parts", "one", "other", "here", "place", "there"]
theorem scMaker_lay_row : FnScope NscMaker_lay_row ["self", "parts", "one", "other"] (defScope sMaker_lay_row) := ⟨rfl, rfl, rfl, by decide +kernel, rfl, by decide +kernel, by decide +kernel⟩
theorem ok_row {f C : Addr} {fd : FuncData} {k n : Nat} (hk : 1 ≤ k) (F : Fun K "lay_row" "Maker.lay_row" sMaker_lay_row f fd) (G : Gs K mg) (ClMaker : MkC K C) (DMaker_fresh : MDef P w K mg base 1 C "fresh" ["self"] (spFresh w K C)) (DMaker_lay : MDef P w K mg base k C "lay" ["self", "pattern", "one", "other"] (spLay w K C n)) :
    FnOk P w K mg base CX0 (k + 1) f fd ["self", "parts", "one", "other"] (spRow w K C n) := by
  refine F.ok scMaker_lay_row (fun vs H Q E h => ?_) (fun cdv A outer s H vs Q E hr h => ?_)
  · obtain ⟨H0, p, t, xs, a, b, nx, L, ps, rfl, _⟩ := h
    rfl
  obtain ⟨H0, p, t, xs, a, b, nx, L, ps, rfl, hM, hT, hX, hok, hd, hn, hpl, hl, q⟩ := h
  refine ⟨_, (pss_cons (ps_if (pt_cmpR (op_eqD hr.units) (pv 1) (pe_tup pa_nil) (nomark _)) (pss_one (ps_asg pe_bl (pg_sub (pe_fld (pv 0) rfl) (pe_tup (pa_cons (pv 2) (pa_cons (pe_tup (pa_cons pe_str pa_nil)) (pa_cons (pv 3) pa_nil)))) (set_nd hr.units)))) pss_nil) (pss_cons (ps_set (i := 4) scMaker_lay_row.nd rfl (Or.inl rfl) (pv 2)) (pss_one (ps_for PassesOwn.never rfl (pi_range1 rfl G.range (pa_cons (pe_callB call_len_seq (by rfl) G.len PySem.boot_len (pa_cons (pv 1) pa_nil)) pa_nil)) (pg_name (i := 5) scMaker_lay_row.nd rfl (Or.inl rfl)) (pss_cons (ps_set (i := 6) scMaker_lay_row.nd rfl (Or.inl rfl) (pv 3)) (pss_cons (ps_if (pt_cmpR op_lt (pv 5) (pe_op op_sub (pe_callB call_len_seq (by rfl) G.len PySem.boot_len (pa_cons (pv 1) pa_nil)) pe_int) (nomark _)) (pss_one (ps_set (i := 6) scMaker_lay_row.nd rfl (Or.inl rfl) (pe_mdef0 (pv 0) ClMaker.cl DMaker_fresh (hr.mono (by omega))))) pss_nil) (pss_cons (ps_expr (pe_mdef (pv 0) ClMaker.cl DMaker_lay (hr.mono (by omega)) (pa_cons (pe_ix ix_tup (pv 1) (pv 5) (fun _ _ => rfl)) (pa_cons (pv 4) (pa_cons (pv 6) pa_nil))))) (pss_one (ps_set (i := 4) scMaker_lay_row.nd rfl (Or.inl rfl) (pv 6)))))))))), ?_⟩
  have hxl := hX.mapLen
  refine ⟨_, rfl, by show 0 ≤ sizeLine; decide, fun e0 he0 => ?_⟩
  have hM1 := hM.mono (same_new (o := .tup []) he0)
  refine ⟨.tuple (ps.map patD), .tuple [], .tup (same_seqT hM1.1 hT) (DtAll.dp (hX.same hM1.1)), .tup (SqT.of upd_same) .nil, shaped_pats hok (by omega), shaped_nilT, _, rfl, ?_⟩
  rw [eqv_nilT]
  generalize upd H e0 (.tup []) = H1 at hM1
  rcases ps with _ | ⟨p0, ps'⟩
  · -- no part
    refine iteT ?_
    obtain ⟨s0, f0, d, dx, d0, hp, hN⟩ := id hM1
    refine ⟨_, rfl, p, C, dx, _, _, rfl, hp, ClMaker.cl, ClMaker.n2, mkF_laid _ _, _, rfl, by show 1 ≤ sizeLine; decide, fun c hc => ?_⟩
    have s1 : Same H1 (upd H1 c (.tup [.str "stay"])) := same_new hc
    refine ⟨_, rfl, by show 3 ≤ sizeLine; decide, fun m hm => ?_⟩
    have s2 := s1.trans (same_new (o := .tup [.int (a : Nat), .ref c, .int (b : Nat)]) hm)
    have ha : Dt K (upd (upd H1 c (.tup [.str "stay"])) m (.tup [.int (a : Nat), .ref c, .int (b : Nat)])) (.ref m) (mvD (a, Leaf.stay, b)) := .tup (SqT.of upd_same) (.cons (.int _) (.cons (leafMk (l := .stay) (SqT.of (same_new hm _ _ upd_same))) (.cons (.int _) .nil)))
    simp only [rowP, layRow, List.length_singleton] at hl
    refine ⟨d, m, (a, .stay, b), L, rfl, rfl, rfl, hN.same s2, ha, by omega, fun H2 eH2 => ?_⟩
    have hP := MkAt.put (s0.trans s2) f0 d0 (s2 _ _ hp) (hN.same s2) ha eH2
    refine ⟨_, rfl, _, rfl, t, _, rfl, .inr (same_seqT hP.1 hT), _, rfl, ?_, ?_, ?_⟩
    · omega
    · omega
    rw [show (((xs.length : Nat) : Int)).toNat = 0 by rw [hxl]; rfl]
    refine for_range (lo := 0) (n := 0) (fun i σ H' => i = 0 ∧ MkAt w K C H0 H' p nx (insL L m (a, .stay, b))) ⟨rfl, hP⟩ (fun i _ _ h => absurd h (Nat.not_lt_zero _)) ?_
    rintro σ H' ⟨_, hM'⟩
    refine q H' (insL L m (a, .stay, b)) ?_ ?_
    · simp only [rowP, layRow]
      exact hM'
    · rw [insL_mvs]
      simp only [rowP, layRow]
      rfl
  · -- parts
    refine iteF ?_
    generalize hps : p0 :: ps' = ps at *
    have hne : 0 < ps.length := by rw [← hps]; exact Nat.succ_pos _
    refine ⟨_, rfl, _, rfl, t, _, rfl, .inr (same_seqT hM1.1 hT), _, rfl, ?_, ?_, ?_⟩
    · omega
    · rw [hxl]; omega
    rw [show (((xs.length : Nat) : Int)).toNat = ps.length by rw [hxl]; omega]
    refine for_range (lo := 0) (n := ps.length) (fun i σ H' => ∃ (here nx' : Nat) (o5 o6 : Option V) (L' : List (Addr × Mv)), σ = [some (.ref p), some (.ref t), some (.int (a : Nat)), some (.int (b : Nat)), some (.int (here : Nat)), o5, o6] ∧ MkAt w K C H0 H' p nx' L' ∧
        (i < ps.length → L'.length + (rowP (ps.drop i) here b nx').1.length ≤ 900 ∧ insAll (L'.map (·.2)) (rowP (ps.drop i) here b nx').1 = insAll (L.map (·.2)) (rowP ps a b nx).1 ∧ (rowP (ps.drop i) here b nx').2 = (rowP ps a b nx).2) ∧
        (i = ps.length → L'.map (·.2) = insAll (L.map (·.2)) (rowP ps a b nx).1 ∧ nx' = (rowP ps a b nx).2))
      ⟨a, nx, none, none, L, rfl, hM1, fun _ => ⟨hl, rfl, rfl⟩, fun e => by omega⟩ ?_ ?_
    · rintro i σ H' hi ⟨here, nx', o5, o6, L', rfl, hM', hA, _⟩
      obtain ⟨hA1, hA2, hA3⟩ := hA hi
      have hpi : ps[i]? = some ps[i] := List.getElem?_eq_getElem hi
      have hdr : ps.drop i = ps[i] :: ps.drop (i + 1) := List.drop_eq_getElem_cons hi
      have hmem := List.mem_of_getElem? hpi
      generalize ps[i] = pi at hpi hdr hmem
      have hpd := dps_mem hmem
      have hpf := frs_mem hmem
      obtain ⟨v, hv, hvd⟩ := hX.get (i := i) (d := patD pi) (by rw [List.getElem?_map, hpi]; rfl)
      have hat : atI xs (0 + (i : Nat)) = some v := by
        rw [Int.zero_add]
        exact atI_nat hv
      obtain ⟨s0, f0, d, dx, d0, hp, hN⟩ := id hM'
      refine ⟨_, rfl, _, rfl, _, rfl, t, _, rfl, .inr (same_seqT s0 hT), _, _, rfl, rfl, _, _, rfl, rfl, _, rfl, ?_⟩
      refine ite_b (fun c => ?_) (fun c => ?_)
      · -- not the last
        have c : 0 + ((i : Nat) : Int) < ((xs.length : Nat) : Int) - 1 := of_decide_eq_true c
        have hi1 : i + 1 < ps.length := by omega
        have hd2 : ps.drop (i + 1) = ps[i + 1] :: ps.drop (i + 1 + 1) := List.drop_eq_getElem_cons hi1
        rw [hdr, hd2, rowP_two, ← hd2] at hA1 hA2 hA3
        rw [insAll_append] at hA2
        rw [List.length_append] at hA1
        refine ⟨_, rfl, p, dx, _, rfl, hp, mkF_no _ _ (by decide +kernel) (by decide +kernel), H0, p, nx', L', rfl, hM', fun H2 hM2 => ?_⟩
        obtain ⟨s2, _, d2, dx2, _, hp2, _⟩ := id hM2
        refine ⟨_, rfl, p, dx2, _, rfl, hp2, mkF_no _ _ (by decide +kernel) (by decide +kernel), _, rfl, _, rfl, t, _, _, _, rfl, rfl, same_seqT s2 hT, hat, _, rfl, _, rfl, ?_⟩
        refine ⟨H0, p, v, here, nx', nx' + 1, L', pi, rfl, hM2, hvd, hok.mem hmem, by omega, hn, by omega, by omega, fun H3 L3 hM3 hL3 => ?_⟩
        have hlen3 := congrArg List.length hL3
        have := length_insAll (layP pi here nx' (nx' + 1)).1 (L'.map (·.2))
        rw [List.length_map] at hlen3 this
        exact ⟨_, rfl, nx', _, _, _, L3, rfl, hM3, fun _ => ⟨by omega, by rw [hL3]; exact hA2, hA3⟩, fun e => by omega⟩
      · have c : ¬ 0 + ((i : Nat) : Int) < ((xs.length : Nat) : Int) - 1 := of_decide_eq_false c
        have hi1 : i + 1 = ps.length := by omega
        have hd2 : ps.drop (i + 1) = [] := by rw [hi1]; exact List.drop_length
        rw [hdr, hd2] at hA1 hA2 hA3
        simp only [rowP, layRow] at hA1 hA2 hA3
        refine ⟨_, rfl, p, dx, _, rfl, hp, mkF_no _ _ (by decide +kernel) (by decide +kernel), _, rfl, _, rfl, t, _, _, _, rfl, rfl, same_seqT s0 hT, hat, _, rfl, _, rfl, ?_⟩
        refine ⟨H0, p, v, here, b, nx', L', pi, rfl, hM', hvd, hok.mem hmem, by omega, hn, by omega, hA1, fun H3 L3 hM3 hL3 => ?_⟩
        exact ⟨_, rfl, b, _, _, _, L3, rfl, hM3, fun e => by omega, fun _ => ⟨by rw [hL3]; exact hA2, hA3⟩⟩
    · rintro σ H' ⟨here, nx', o5, o6, L', rfl, hM', _, hB⟩
      obtain ⟨h1, h2⟩ := hB rfl
      rw [h2] at hM'
      exact q H' L' hM' h1

abbrev sMaker_lay : Stmt := inClass (top 3) 2
abbrev NscMaker_lay : List Str := ["self", "pattern", "one", "other", "part", "middle"]
theorem scMaker_lay : FnScope NscMaker_lay ["self", "pattern", "one", "other"] (defScope sMaker_lay) := ⟨rfl, rfl, rfl, by decide +kernel, rfl, by decide +kernel, by decide +kernel⟩
theorem ok_lay {f C : Addr} {fd : FuncData} {k n : Nat} (hk : 1 ≤ k) (F : Fun K "lay" "Maker.lay" sMaker_lay f fd) (G : Gs K mg) (ClMaker : MkC K C) (DMaker_fresh : MDef P w K mg base 1 C "fresh" ["self"] (spFresh w K C)) (DMaker_lay : MDef P w K mg base k C "lay" ["self", "pattern", "one", "other"] (spLay w K C n))
    (DMaker_lay_row : MDef P w K mg base (k + 1) C "lay_row" ["self", "parts", "one", "other"] (spRow w K C n)) :
    FnOk P w K mg base CX0 (k + 2) f fd ["self", "pattern", "one", "other"] (spLay w K C (n + 1)) := by
  refine F.ok scMaker_lay (fun vs H Q E h => ?_) (fun cdv A outer s H vs Q E hr h => ?_)
  · obtain ⟨H0, p, pvv, a, b, nx, L, pt, rfl, _⟩ := h
    rfl
  obtain ⟨H0, p, pvv, a, b, nx, L, pt, rfl, hM, hP, hok, hd, hn, hfr, hl, q⟩ := h
  obtain ⟨la, m_LEAVES, kLEAVES⟩ := G.leaves
  have r_LEAVES : RelV (.ref la) (.ref la) := rfl
  refine ⟨_, (pss_one (ps_if (pt_cmpR op_in_seq (pe_ix ix_tup (pv 1) pe_int (fun _ _ => rfl)) (pe_glob rfl m_LEAVES r_LEAVES) (by with_unfolding_all rfl)) (pss_one (ps_asg pe_bl (pg_sub (pe_fld (pv 0) rfl) (pe_tup (pa_cons (pv 2) (pa_cons (pv 1) (pa_cons (pv 3) pa_nil)))) (set_nd hr.units)))) (pss_one (ps_if (pt_cmpR op_eq (pe_ix ix_tup (pv 1) pe_int (fun _ _ => rfl)) pe_str (nomark _)) (pss_one (ps_for PassesOwn.never rfl (pi_tup (pe_ix ix_tup (pv 1) pe_int (fun _ _ => rfl))) (pg_name (i := 4) scMaker_lay.nd rfl (Or.inl rfl)) (pss_one (ps_expr (pe_mdef (pv 0) ClMaker.cl DMaker_lay (hr.mono (by omega)) (pa_cons (pv 4) (pa_cons (pv 2) (pa_cons (pv 3) pa_nil)))))))) (pss_one (ps_if (pt_cmpR op_eq (pe_ix ix_tup (pv 1) pe_int (fun _ _ => rfl)) pe_str (nomark _)) (pss_cons (ps_set (i := 5) scMaker_lay.nd rfl (Or.inl rfl) (pe_mdef0 (pv 0) ClMaker.cl DMaker_fresh (hr.mono (by omega)))) (pss_cons (ps_asg pe_bl (pg_sub (pe_fld (pv 0) rfl) (pe_tup (pa_cons (pv 2) (pa_cons (pe_tup (pa_cons pe_str pa_nil)) (pa_cons (pv 5) pa_nil)))) (set_nd hr.units))) (pss_cons (ps_asg pe_bl (pg_sub (pe_fld (pv 0) rfl) (pe_tup (pa_cons (pv 5) (pa_cons (pe_tup (pa_cons pe_str pa_nil)) (pa_cons (pv 3) pa_nil)))) (set_nd hr.units))) (pss_one (ps_expr (pe_mdef (pv 0) ClMaker.cl DMaker_lay (hr.mono (by omega)) (pa_cons (pe_ix ix_tup (pv 1) pe_int (fun _ _ => rfl)) (pa_cons (pv 5) (pa_cons (pv 5) pa_nil))))))))) (pss_one (ps_expr (pe_mdef (pv 0) ClMaker.cl DMaker_lay_row (hr.mono (by omega)) (pa_cons (pe_ix ix_tup (pv 1) pe_int (fun _ _ => rfl)) (pa_cons (pv 2) (pa_cons (pv 3) pa_nil)))))))))))), ?_⟩
  obtain ⟨s0, f0, d, dx, d0, hp, hN⟩ := id hM
  have hL : ∀ H', SqT K H' la leavesV := fun H' => kLEAVES.sqT H'
  have fL : leavesV.all flatV = true := rfl
  rcases pt with l | ps | ps | pt
  · -- a leaf
    rw [patD] at hP
    obtain ⟨c, rfl, hT⟩ := leafI hP
    simp only [layP, lay, List.length_singleton] at hl
    have hin : ∃ z r, leafV l = .str z :: r ∧ inV (.str z) leavesV = true := by
      cases l
      · exact ⟨_, _, rfl, by decide +kernel⟩
      · exact ⟨_, _, rfl, by decide +kernel⟩
      · exact ⟨_, _, rfl, by decide +kernel⟩
      · exact ⟨_, _, rfl, by decide +kernel⟩
    obtain ⟨z, r, e1, e2⟩ := hin
    rw [e1] at hT
    refine ⟨_, rfl, c, _, 0, _, rfl, rfl, same_seqT s0 hT, at0, la, _, rfl, .inr (hL _), rfl, fL, _, rfl, ?_⟩
    rw [if_neg Bool.false_ne_true, e2]
    refine iteT ?_
    refine ⟨_, rfl, p, C, dx, _, _, rfl, hp, ClMaker.cl, ClMaker.n2, mkF_laid _ _, _, rfl, _, rfl, _, rfl, by show 3 ≤ sizeLine; decide, fun m hm => ?_⟩
    have s1 : Same H (upd H m (.tup [.int (a : Nat), .ref c, .int (b : Nat)])) := same_new hm
    have ha : Dt K (upd H m (.tup [.int (a : Nat), .ref c, .int (b : Nat)])) (.ref m) (mvD (a, l, b)) := .tup (SqT.of upd_same) (.cons (.int _) (.cons (hP.same (s0.trans s1)) (.cons (.int _) .nil)))
    refine ⟨d, m, (a, l, b), L, rfl, rfl, rfl, hN.same s1, ha, by omega, fun H2 eH2 => ?_⟩
    refine q _ _ (MkAt.put (s0.trans s1) f0 d0 (s1 _ _ hp) (hN.same s1) ha eH2) ?_
    rw [insL_mvs]
    simp only [layP, lay]
    rfl
  · -- then
    obtain ⟨c, t, xs, rfl, hT, hT2, hxs⟩ := thnI hP
    simp only [dps] at hd
    simp only [LOk] at hok
    refine ⟨_, rfl, c, _, 0, _, rfl, rfl, same_seqT s0 hT, at0, la, _, rfl, .inr (hL _), rfl, fL, _, rfl, ?_⟩
    rw [if_neg Bool.false_ne_true, show inV (.str "then") leavesV = false by decide +kernel]
    refine iteF ?_
    refine ⟨_, rfl, c, _, 0, _, rfl, rfl, same_seqT s0 hT, at0, rfl, _, rfl, ite_f (by decide +kernel) ?_⟩
    refine ⟨_, rfl, c, _, 0, _, rfl, rfl, same_seqT s0 hT, at0, rfl, _, rfl, ite_f (by decide +kernel) ?_⟩
    refine ⟨_, rfl, p, dx, _, rfl, hp, mkF_no _ _ (by decide +kernel) (by decide +kernel), _, rfl, c, _, 1, _, rfl, rfl, same_seqT s0 hT, at1, _, rfl, _, rfl, ?_⟩
    simp only [layP, lay] at hl q
    simp only [frs] at hfr
    exact ⟨H0, p, t, xs, a, b, nx, L, ps, rfl, hM, hT2, hxs, hok, by omega, by omega, hfr, hl, q⟩
  · -- either
    obtain ⟨c, t, xs, rfl, hT, hT2, hxs⟩ := eitI hP
    simp only [dps] at hd
    simp only [frs] at hfr
    simp only [LOk] at hok
    refine ⟨_, rfl, c, _, 0, _, rfl, rfl, same_seqT s0 hT, at0, la, _, rfl, .inr (hL _), rfl, fL, _, rfl, ?_⟩
    rw [if_neg Bool.false_ne_true, show inV (.str "either") leavesV = false by decide +kernel]
    refine iteF ?_
    refine ⟨_, rfl, c, _, 0, _, rfl, rfl, same_seqT s0 hT, at0, rfl, _, rfl, ite_t (by decide +kernel) ?_⟩
    refine ⟨_, rfl, c, _, 1, _, rfl, rfl, same_seqT s0 hT, at1, t, rfl, ⟨_, same_seqT s0 hT2⟩, ?_⟩
    simp only [layP, lay] at hl q
    refine for_tup (xs := xs) (fun i σ H' => ∃ (o4 : Option V) (nx' : Nat) (L' : List (Addr × Mv)), σ = [some (.ref p), some (.ref c), some (.int (a : Nat)), some (.int (b : Nat)), o4, none] ∧ MkAt w K C H0 H' p nx' L' ∧
        L'.length + (eitP (ps.drop i) a b nx').1.length ≤ 900 ∧ insAll (L'.map (·.2)) (eitP (ps.drop i) a b nx').1 = insAll (L.map (·.2)) (eitP ps a b nx).1 ∧ (eitP (ps.drop i) a b nx').2 = (eitP ps a b nx).2)
      ⟨none, nx, L, rfl, hM, hl, rfl, rfl⟩ ?_ ?_ ?_
    · rintro i σ H' _ ⟨_, _, _, _, hM', _⟩
      exact same_seqT hM'.1 hT2
    · rintro i x σ H' hi ⟨o4, nx', L', rfl, hM', hA1, hA2, hA3⟩
      obtain ⟨pi, hpi, hx⟩ := hxs.mapGet hi
      have hi' : i < ps.length := (List.getElem?_eq_some_iff.mp hpi).1
      have hdr : ps.drop i = pi :: ps.drop (i + 1) := by
        rw [List.drop_eq_getElem_cons hi']
        congr 1
        exact (List.getElem?_eq_some_iff.mp hpi).2
      have hmem := List.mem_of_getElem? hpi
      have hpd := dps_mem hmem
      have hpf := frs_mem hmem
      rw [hdr] at hA1 hA2 hA3
      simp only [eitP, layEit] at hA1 hA2 hA3
      rw [insAll_append] at hA2
      rw [List.length_append] at hA1
      obtain ⟨s2, _, d2, dx2, _, hp2, _⟩ := id hM'
      refine ⟨_, rfl, p, dx2, _, rfl, hp2, mkF_no _ _ (by decide +kernel) (by decide +kernel), _, rfl, _, rfl, _, rfl, ?_⟩
      refine ⟨H0, p, x, a, b, nx', L', pi, rfl, hM', hx, hok.mem hmem, by omega, by omega, by omega, by show L'.length + (lay Leaf.stay pi a b nx').1.length ≤ 900; omega, fun H3 L3 hM3 hL3 => ?_⟩
      have hlen3 : (L3.map (·.2)).length = (insAll (L'.map (·.2)) (lay Leaf.stay pi a b nx').1).length := congrArg List.length hL3
      have := length_insAll (lay Leaf.stay pi a b nx').1 (L'.map (·.2))
      rw [List.length_map] at hlen3 this
      exact ⟨_, _, L3, rfl, hM3, by show L3.length + (layEit Leaf.stay (ps.drop (i + 1)) a b (lay Leaf.stay pi a b nx').2).1.length ≤ 900; omega, by rw [hL3]; exact hA2, hA3⟩
    · rintro σ H' ⟨o4, nx', L', rfl, hM', hA1, hA2, hA3⟩
      rw [hxs.mapLen, List.drop_length] at hA2 hA3
      simp only [eitP, layEit] at hA2 hA3
      rw [hA3] at hM'
      exact q H' L' hM' hA2
  · -- many
    obtain ⟨c, pvw, rfl, hT, hP'⟩ := manyI hP
    simp only [dps] at hd
    simp only [frs] at hfr
    simp only [LOk] at hok
    refine ⟨_, rfl, c, _, 0, _, rfl, rfl, same_seqT s0 hT, at0, la, _, rfl, .inr (hL _), rfl, fL, _, rfl, ?_⟩
    rw [if_neg Bool.false_ne_true, show inV (.str "many") leavesV = false by decide +kernel]
    refine iteF ?_
    refine ⟨_, rfl, c, _, 0, _, rfl, rfl, same_seqT s0 hT, at0, rfl, _, rfl, ite_f (by decide +kernel) ?_⟩
    refine ⟨_, rfl, c, _, 0, _, rfl, rfl, same_seqT s0 hT, at0, rfl, _, rfl, ite_t (by decide +kernel) ?_⟩
    simp only [layP, lay, List.length_cons] at hl q
    refine ⟨_, rfl, p, dx, _, rfl, hp, mkF_no _ _ (by decide +kernel) (by decide +kernel), H0, p, nx, L, rfl, hM, fun H1 hM1 => ?_⟩
    obtain ⟨s1, _, d1, dx1, d10, hp1, hN1⟩ := id hM1
    -- (one, stay, middle)
    refine ⟨_, rfl, p, C, dx1, _, _, rfl, hp1, ClMaker.cl, ClMaker.n2, mkF_laid _ _, _, rfl, by show 1 ≤ sizeLine; decide, fun c1 hc1 => ?_⟩
    have t1 : Same H1 (upd H1 c1 (.tup [.str "stay"])) := same_new hc1
    refine ⟨_, rfl, by show 3 ≤ sizeLine; decide, fun m1 hm1 => ?_⟩
    have t2 := t1.trans (same_new (o := .tup [.int (a : Nat), .ref c1, .int (nx : Nat)]) hm1)
    have ha1 : Dt K (upd (upd H1 c1 (.tup [.str "stay"])) m1 (.tup [.int (a : Nat), .ref c1, .int (nx : Nat)])) (.ref m1) (mvD (a, Leaf.stay, nx)) := .tup (SqT.of upd_same) (.cons (.int _) (.cons (leafMk (l := .stay) (SqT.of (same_new hm1 _ _ upd_same))) (.cons (.int _) .nil)))
    refine ⟨d1, m1, (a, .stay, nx), L, rfl, rfl, rfl, hN1.same t2, ha1, by omega, fun H2 eH2 => ?_⟩
    have hM2 := MkAt.put (s1.trans t2) f0 d10 (t2 _ _ hp1) (hN1.same t2) ha1 eH2
    have l2 := congrArg List.length (insL_mvs L m1 (a, Leaf.stay, nx))
    have l2' := length_insS (L.map (·.2)) (a, Leaf.stay, nx)
    rw [List.length_map] at l2 l2'
    obtain ⟨s2, _, d2, dx2, d20, hp2, hN2⟩ := id hM2
    -- (middle, stay, other)
    refine ⟨_, rfl, p, C, dx2, _, _, rfl, hp2, ClMaker.cl, ClMaker.n2, mkF_laid _ _, _, rfl, by show 1 ≤ sizeLine; decide, fun c2 hc2 => ?_⟩
    have t3 : Same H2 (upd H2 c2 (.tup [.str "stay"])) := same_new hc2
    refine ⟨_, rfl, by show 3 ≤ sizeLine; decide, fun m2 hm2 => ?_⟩
    have t4 := t3.trans (same_new (o := .tup [.int (nx : Nat), .ref c2, .int (b : Nat)]) hm2)
    have ha2 : Dt K (upd (upd H2 c2 (.tup [.str "stay"])) m2 (.tup [.int (nx : Nat), .ref c2, .int (b : Nat)])) (.ref m2) (mvD (nx, Leaf.stay, b)) := .tup (SqT.of upd_same) (.cons (.int _) (.cons (leafMk (l := .stay) (SqT.of (same_new hm2 _ _ upd_same))) (.cons (.int _) .nil)))
    refine ⟨d2, m2, (nx, .stay, b), _, rfl, rfl, rfl, hN2.same t4, ha2, by omega, fun H3 eH3 => ?_⟩
    have hM3 := MkAt.put (s2.trans t4) f0 d20 (t4 _ _ hp2) (hN2.same t4) ha2 eH3
    have l3 := congrArg List.length (insL_mvs (insL L m1 (a, Leaf.stay, nx)) m2 (nx, Leaf.stay, b))
    have l3' := length_insS ((insL L m1 (a, Leaf.stay, nx)).map (·.2)) (nx, Leaf.stay, b)
    have l3e := insL_mvs (insL L m1 (a, Leaf.stay, nx)) m2 (nx, Leaf.stay, b)
    rw [insL_mvs L m1] at l3e
    rw [List.length_map] at l3 l3'
    generalize insL (insL L m1 (a, Leaf.stay, nx)) m2 (nx, Leaf.stay, b) = L3 at hM3 l3 l3e
    obtain ⟨s3, _, d3, dx3, _, hp3, _⟩ := id hM3
    refine ⟨_, rfl, p, dx3, _, rfl, hp3, mkF_no _ _ (by decide +kernel) (by decide +kernel), _, rfl, c, _, 1, _, rfl, rfl, same_seqT s3 hT, at1, _, rfl, _, rfl, ?_⟩
    refine ⟨H0, p, pvw, nx, nx, nx + 1, L3, pt, rfl, hM3, hP', hok, by omega, by omega, by omega, by show L3.length + (lay Leaf.stay pt nx nx (nx + 1)).1.length ≤ 900; omega, fun H4 L4 hM4 hL4 => ?_⟩
    refine q H4 L4 hM4 ?_
    rw [hL4, l3e]
    rfl
end
end PK
set_option Elab.async false
set_option linter.all false
set_option maxRecDepth 100000
set_option autoImplicit false
set_option maxHeartbeats 4000000
/-! machine_of -/
namespace PK
open PySem PySem.Spec PyProof.Rows L2
section
variable {P : Program} {w : World} {K : PySem.W.Frag} {mg : Str → Option Value} {base : Heap}
theorem insAll_local (p : Pt) : ∀ e ∈ mvsOf p, e.1 < nOf p ∧ e.2.2 < nOf p := fun e he => by
  have h1 : e ∈ insAll [] (layP p 0 1 2).1 := (List.mergeSort_perm _ _).mem_iff.mp he
  have h2 : e ∈ (layP p 0 1 2).1 := (mem_insAll.mp h1).resolve_left (by simp)
  have hl := lay_local Leaf.stay p 0 1 2
  have hle := hl.le
  have h0 : 2 ≤ nOf p := hle
  constructor
  · rcases hl.src e h2 with q | q
    · rw [q]; omega
    · exact q.2
  · rcases hl.dst e h2 with q | q
    · rw [q]; omega
    · exact q.2
theorem mvs_mem {p : Pt} {e : Mv} : e ∈ mvsOf p ↔ e ∈ (layP p 0 1 2).1 := by
  unfold mvsOf
  rw [(List.mergeSort_perm _ _).mem_iff, mem_insAll]
  simp
theorem mvs_nodup (p : Pt) : (mvsOf p).Nodup := (List.mergeSort_perm _ _).nodup_iff.mpr (nodup_insAll List.nodup_nil)
theorem mvs_len {p : Pt} {f e d : Nat} (h : PtOk p f e d) : (mvsOf p).length ≤ e := by
  unfold mvsOf
  rw [(List.mergeSort_perm _ _).length_eq]
  have h1 := length_insAll (layP p 0 1 2).1 []
  have h2 := lay_len p 0 1 2
  have := h.ed
  rw [List.length_nil] at h1
  omega
theorem n_le {p : Pt} {f e d : Nat} (h : PtOk p f e d) : nOf p ≤ 2 + f := by
  have h1 := lay_next p 0 1 2
  have := h.fr
  unfold nOf
  omega
theorem mvs_ok {p : Pt} (h : PtOk p 38 39 10) : MvOk (mvsOf p) := by
  have h1 := mvs_len h
  have h2 := n_le h
  exact ⟨by omega, fun e he => by have := insAll_local p e he; omega⟩

abbrev smachine_of : Stmt := top 4
abbrev Nscmachine_of : List Str := ["pattern", "maker"]
theorem scmachine_of : FnScope Nscmachine_of ["pattern"] (defScope smachine_of) := ⟨rfl, rfl, rfl, by decide +kernel, rfl, by decide +kernel, by decide +kernel⟩
def spMach (K : PySem.W.Frag) : Sp := fun vs H Q _ => ∃ (pvv : V) (p : Pt), vs = [pvv] ∧ Dt K H pvv (patD p) ∧ PtOk p 38 39 10 ∧ ∀ (H' : Hp) (r : V), Same H H' → Dt K H' r (machD (nOf p) (mvsOf p)) → Q r H'
theorem ok_machine {f C : Addr} {fd : FuncData} {k : Nat} (hk : 1 ≤ k) (F : Fun K "machine_of" "machine_of" smachine_of f fd) (G : Gs K mg) (ClMaker : MkC K C) (MkMaker : MkDef P w K mg base 1 "Maker" C (spMInit w K C)) (DMaker_lay : MDef P w K mg base k C "lay" ["self", "pattern", "one", "other"] (spLay w K C 10)) :
    FnOk P w K mg base CX0 (k + 2) f fd ["pattern"] (spMach K) := by
  refine F.ok scmachine_of (fun vs H Q E h => ?_) (fun cdv A outer s H vs Q E hr h => ?_)
  · obtain ⟨pvv, p, rfl, _⟩ := h
    rfl
  obtain ⟨pvv, p, rfl, hP, hok, q⟩ := h
  refine ⟨_, (pss_cons (ps_set (i := 1) scmachine_of.nd rfl (Or.inl rfl) (pe_mk0 MkMaker (hr.mono (by omega)) rfl)) (pss_cons (ps_expr (pe_mdef (pv 1) ClMaker.cl DMaker_lay (hr.mono (by omega)) (pa_cons (pv 0) (pa_cons pe_int (pa_cons pe_int pa_nil))))) (pss_one (ps_ret (pe_tup (pa_cons (pe_fld (pv 1) rfl) (pa_cons pe_int (pa_cons (pe_tup (pa_cons pe_int pa_nil)) (pa_cons (pe_callTy call_tuple_of (by rfl) G.tuple boot_tuple (pa_cons (pe_callB (cr_sortedN rfl hr.units) (by rfl) G.sorted boot_sorted (pa_cons (pe_fld (pv 1) rfl) pa_nil)) pa_nil)) pa_nil))))))))), ?_⟩
  intro x dx hx hdx hne
  have s00 : Same H (upd (upd H dx (.own x)) x (.ins C dx [])) := fun b o e => by
    rw [upd_ne (ne_of_none e hx), upd_ne (ne_of_none e hdx)]
    exact e
  refine ⟨H, x, dx, rfl, s00, hx, upd_same, fun H1 hM1 => ⟨rfl, ?_⟩⟩
  obtain ⟨s1, f0, d, dx1, d0, hp, hN⟩ := id hM1
  refine ⟨_, rfl, x, dx1, _, rfl, hp, mkF_no _ _ (by decide +kernel) (by decide +kernel), _, rfl, ?_⟩
  have hl := lay_len p 0 1 2
  have := hok.ed
  have := hok.fr
  have := hok.dp
  refine ⟨H, x, pvv, 0, 1, 2, [], p, rfl, hM1, hP, hok.lo, hok.dp, by omega, by omega, by rw [List.length_nil]; omega, fun H2 L hM2 hL => ?_⟩
  obtain ⟨s2, _, d2, dx2, _, hp2, hN2⟩ := hM2
  refine ⟨_, rfl, x, C, dx2, _, _, rfl, hp2, ClMaker.cl, ClMaker.n1, mkF_size _ _, by show 1 ≤ sizeLine; decide, fun e he => ?_⟩
  have t1 : Same H2 (upd H2 e (.tup [.int 1])) := same_new he
  have hLl : L.length ≤ 39 := by
    have h1 := congrArg List.length hL
    have h2 := length_insAll (layP p 0 1 2).1 []
    rw [List.length_map] at h1
    rw [List.length_nil] at h2
    have h3 : (insAll (([] : List (Addr × Mv)).map (·.2)) (layP p 0 1 2).1).length = (insAll [] (layP p 0 1 2).1).length := rfl
    omega
  refine ⟨_, rfl, x, C, dx2, _, _, rfl, t1 _ _ hp2, ClMaker.cl, ClMaker.n2, mkF_laid _ _, d2, L, rfl, hN2.same t1, by omega, fun l ys hl hys => ?_⟩
  have t2 : Same (upd H2 e (.tup [.int 1])) (upd (upd H2 e (.tup [.int 1])) l (.lst ys)) := same_new hl
  rw [hL] at hys
  refine ⟨l, ys, rfl, .inl ⟨SqL.of upd_same, fun m hm => ?_⟩⟩
  have t3 := same_new (o := .tup ys) hm
  refine ⟨by show 4 ≤ sizeLine; decide, fun r hr0 => ?_⟩
  have t4 := same_new (o := .tup [.int (nOf p : Nat), .int 0, .ref e, .ref m]) hr0
  have t24 := t2.trans (t3.trans t4)
  refine q _ _ (s2.trans (t1.trans t24)) (.tup (SqT.of upd_same) (.cons (.int _) (.cons (.int _) (.cons (.tup (SqT.of (t24 _ _ upd_same)) (.cons (.int _) .nil)) (.cons (.tup (SqT.of (t4 _ _ upd_same)) (DtAll.same t24 hys)) .nil)))))
end
end PK
set_option Elab.async false
set_option linter.all false
set_option maxRecDepth 100000
set_option autoImplicit false
set_option maxHeartbeats 4000000
/-! Rows drawn. -/
namespace PK
open PySem PySem.Spec PyProof.Rows L2
section
variable {P : Program} {w : World} {K : PySem.W.Frag} {mg : Str → Option Value} {base : Heap}
theorem sizes26 : ([V.int 6] ++ (List.replicate 6 [V.int 4]).flatten ++ [V.int (6 + 1)] ++ (List.replicate 6 [V.int 6, V.int 3, V.int 6]).flatten) = ([6, 4, 4, 4, 4, 4, 4, 7, 6, 3, 6, 6, 3, 6, 6, 3, 6, 6, 3, 6, 6, 3, 6, 6, 3, 6] : List Int).map V.int := rfl
theorem drawnAt {ds ns : List Int} (hl : ds.length = ns.length) (h : ∀ (i : Nat) d n, ds[i]? = some d → ns[i]? = some n → 0 ≤ d ∧ d < n) (i : Nat) (n : Int) (hn : ns[i]? = some n) : ∃ d, ds[i]? = some d ∧ 0 ≤ d ∧ d < n := by
  have hi : i < ds.length := by rw [hl]; exact (List.getElem?_eq_some_iff.mp hn).1
  exact ⟨ds[i], List.getElem?_eq_getElem hi, h i _ n (List.getElem?_eq_getElem hi) hn⟩
theorem atInt {ds : List Int} {i : Nat} {d j : Int} (h : ds[i]? = some d) (e : j = (i : Nat)) : atI (ds.map V.int) j = some (.int d) := by
  rw [e]
  exact atI_nat (by rw [List.getElem?_map, h]; rfl)
theorem keys_list {H : Hp} : ∀ {ts : List Step} {bs : List Addr} {K : PySem.W.Frag}, IsKeys H (tieD ts) bs → DtAll K H (bs.map V.ref) (ts.map stD)
  | [], bs, K, h => by
    have h' : Paired (fun (p : List Key × V) b => H b = some (.tup (p.1.map kV))) [] bs := h
    cases h'
    exact .nil
  | t :: ts, bs, K, h => by
    have h' : Paired (fun (p : List Key × V) b => H b = some (.tup (p.1.map kV))) ((tieK t, V.bl true) :: tieD ts) bs := h
    cases h' with
    | cons h1 h2 => exact .cons (stMk (SqT.of h1)) (keys_list h2)
theorem cut_take (xs : List V) {j : Int} (h : 0 ≤ j) : cutV xs none (some j) = xs.take j.toNat := by
  unfold cutV
  have e1 : HT.sIx xs.length 0 none = 0 := rfl
  have e2 : HT.sIx xs.length xs.length (some j) = min j.toNat xs.length := by
    show (if j < 0 then (j + (xs.length : Int)).toNat else min j.toNat xs.length) = _
    rw [if_neg (by omega)]
  rw [e1, e2, List.drop_zero, Nat.sub_zero]
  by_cases q : j.toNat ≤ xs.length
  · rw [Nat.min_eq_left q]
  · rw [Nat.min_eq_right (by omega), List.take_of_length_le (Nat.le_refl _), List.take_of_length_le (by omega)]
theorem snoc_old {kvs : List (Key × V)} {k x : Key} {v y : V} (h : valV kvs k = some v) (hx : valV kvs x = none) : valV (kvs ++ [(x, y)]) k = some v := by
  rw [← putK_new y hx, valV_put, if_neg (fun e => by rw [e, hx] at h; cases h)]
  exact h
theorem snoc_new {kvs : List (Key × V)} {x : Key} {y : V} (hx : valV kvs x = none) : valV (kvs ++ [(x, y)]) x = some y := by
  rw [← putK_new y hx, valV_put, if_pos rfl]
abbrev ns26 : List Int := [6, 4, 4, 4, 4, 4, 4, 7, 6, 3, 6, 6, 3, 6, 6, 3, 6, 6, 3, 6, 6, 3, 6, 6, 3, 6]
theorem ns_marks : ∀ i, i < 6 → ns26[1 + i]? = some 4 := by decide
theorem ns_ties : ∀ j, j < 6 → ns26[8 + 3 * j]? = some 6 ∧ ns26[9 + 3 * j]? = some 3 ∧ ns26[10 + 3 * j]? = some 6 := by decide
theorem knots_nodup : knotsL.Nodup := by decide +kernel
theorem knots_ok : knotsL.all (fun x => PyData.strOk x) = true := by decide +kernel
theorem words_okL : wordsL.all (fun x => PyData.strOk x) = true := by decide +kernel

abbrev srows : Stmt := top 26
abbrev Nscrows : List Str := ["_law_cell", "_law_most", "_law_ds", "_law_knots_here", "_law_marks_here", "_law_k", "_law_j", "_law_ties", "_law_one", "_law_other"]
theorem scrows : FnScope Nscrows ["_law_cell", "_law_most"] (defScope srows) := ⟨rfl, rfl, rfl, by decide +kernel, rfl, by decide +kernel, by decide +kernel⟩
def spRows (K : PySem.W.Frag) : Sp := fun vs H Q _ => ∃ (c : Int), vs = [.int c, .int 6] ∧ ∀ (H' : Hp) (r : Addr) (ks : List (Str × List Str)) (ts : List Step), Same H H' → RowsAt K H' r ks ts → RowsOk ks ts → Q (.ref r) H'
theorem ok_rows {f : Addr} {fd : FuncData} (F : Fun K "_law_rows" "_law_rows" srows f fd) (G : Gs K mg) (D_law_draws : Def P w K mg base 1 "_law_draws" ["_law_cell", "_law_sizes"] (spDraws K))
    (D_law_knots : Def P w K mg base 1 "_law_knots" [] (spTexts knotsL)) (D_law_words : Def P w K mg base 1 "_law_words" [] (spTexts wordsL)) (D_law_marks : Def P w K mg base 1 "_law_marks" [] (spTexts marksL)) :
    FnOk P w K mg base CX0 2 f fd ["_law_cell", "_law_most"] (spRows K) := by
  refine F.ok scrows (fun vs H Q E h => ?_) (fun cdv A outer s H vs Q E hr h => ?_)
  · obtain ⟨c, rfl, _⟩ := h
    rfl
  obtain ⟨c, rfl, q⟩ := h
  refine ⟨_, (pss_cons (ps_set (i := 2) scrows.nd rfl (Or.inr rfl) (pe_def D_law_draws (hr.mono (by omega)) rfl (pa_cons (pv 0) (pa_cons (pe_op op_cat (pe_op op_cat (pe_op op_cat (pe_lst (pa_cons pe_int pa_nil)) (pe_op op_rep (pe_lst (pa_cons pe_int pa_nil)) pe_int)) (pe_lst (pa_cons (pe_op op_add (pv 1) pe_int) pa_nil))) (pe_op op_rep (pe_lst (pa_cons pe_int (pa_cons pe_int (pa_cons pe_int pa_nil)))) (pv 1))) pa_nil)))) (pss_cons (ps_set (i := 3) scrows.nd rfl (Or.inl rfl) (pe_slice sl_list (pe_def0 D_law_knots (hr.mono (by omega)) rfl) po_none (po_some (pe_op op_add pe_int (pe_ix ix_list (pv 2) pe_int (fun _ _ => rfl)))))) (pss_cons (ps_set (i := 4) scrows.nd rfl (Or.inl rfl) pe_dnewK) (pss_cons (ps_for PassesOwn.never rfl (pi_range1 rfl G.range (pa_cons (pe_callB call_len_seq (by rfl) G.len PySem.boot_len (pa_cons (pv 3) pa_nil)) pa_nil)) (pg_name (i := 5) scrows.nd rfl (Or.inr rfl)) (pss_one (ps_dput (hu_of hr) (pv 4) (pe_ix ix_list (pv 3) (pv 5) (fun _ _ => rfl)) (pe_lc (own := [("_law_j", 6)]) rfl scrows.nd (pi_range1 rfl G.range (pa_cons pe_int pa_nil)) (blkOk_by (N := Nscrows) (sc := defScope srows) (by decide +kernel)) (fun _ _ _ _ _ => (pg_name (i := 6) scrows.nd rfl (Or.inl rfl))) (fun _ _ _ _ _ => (pts_one (pt_cmpR op_eq (pe_op op_mod (pe_op op_fdiv (pe_ix (r := rIxL K) ix_list (pv 2) (pe_op op_add pe_int (pv 5)) (fun _ _ => rfl)) (pe_op op_add pe_int (pv 6))) pe_int) pe_int (nomark _)))) (fun _ _ _ _ _ => (pe_ix (r := rIxL K) ix_list (pe_def0 D_law_marks (hr.mono (by omega)) rfl) (pv 6) (fun _ _ => rfl)))) rfl))) (pss_cons (ps_set (i := 7) scrows.nd rfl (Or.inl rfl) pe_dnewT) (pss_cons (ps_for PassesOwn.never rfl (pi_range1 rfl G.range (pa_cons (pe_ix ix_list (pv 2) pe_int (fun _ _ => rfl)) pa_nil)) (pg_name (i := 6) scrows.nd rfl (Or.inl rfl)) (pss_cons (ps_set (i := 8) scrows.nd rfl (Or.inl rfl) (pe_ix ix_list (pv 3) (pe_op op_mod (pe_ix ix_list (pv 2) (pe_op op_add pe_int (pe_op op_mul pe_int (pv 6))) (fun _ _ => rfl)) (pe_callB call_len_seq (by rfl) G.len PySem.boot_len (pa_cons (pv 3) pa_nil))) (fun _ _ => rfl))) (pss_cons (ps_set (i := 9) scrows.nd rfl (Or.inl rfl) (pe_ix ix_list (pv 3) (pe_op op_mod (pe_ix ix_list (pv 2) (pe_op op_add pe_int (pe_op op_mul pe_int (pv 6))) (fun _ _ => rfl)) (pe_callB call_len_seq (by rfl) G.len PySem.boot_len (pa_cons (pv 3) pa_nil))) (fun _ _ => rfl))) (pss_one (ps_dput (hu_of hr) (pv 7) (pe_tup (pa_cons (pv 8) (pa_cons (pe_ix ix_list (pe_def0 D_law_words (hr.mono (by omega)) rfl) (pe_ix ix_list (pv 2) (pe_op op_add pe_int (pe_op op_mul pe_int (pv 6))) (fun _ _ => rfl)) (fun _ _ => rfl)) (pa_cons (pv 9) pa_nil)))) pe_bl rfl))))) (pss_one (ps_ret (pe_tup (pa_cons (pv 4) (pa_cons (pe_callTy (call_list_dT rfl) (by rfl) G.list boot_list (pa_cons (pv 7) pa_nil)) pa_nil))))))))))), ?_⟩
  -- the sizes
  refine ⟨_, rfl, by show 1 ≤ sizeLine; decide, fun l1 n1 => ?_⟩
  have s1 : Same H (upd H l1 (.lst [.int 6])) := same_new n1
  refine ⟨by show 1 ≤ sizeLine; decide, fun l2 n2 => ?_⟩
  have s2 := same_new (o := .lst [.int 4]) n2
  refine ⟨l2, _, _, rfl, rfl, upd_same, by decide, by decide, by show 1 * 6 ≤ sizeLine; decide, fun l3 n3 => ?_⟩
  have s3 := same_new (o := .lst (List.replicate 6 [V.int 4]).flatten) n3
  refine ⟨l1, l3, _, _, rfl, rfl, s3 _ _ (s2 _ _ upd_same), upd_same, by show 1 + 6 ≤ sizeLine; decide, fun l4 n4 => ?_⟩
  have s4 := same_new (o := .lst ([V.int 6] ++ (List.replicate 6 [V.int 4]).flatten)) n4
  refine ⟨_, rfl, _, _, rfl, rfl, by show 1 ≤ sizeLine; decide, fun l5 n5 => ?_⟩
  have s5 := same_new (o := .lst [.int (6 + 1)]) n5
  refine ⟨l4, l5, _, _, rfl, rfl, s5 _ _ upd_same, upd_same, by show 7 + 1 ≤ sizeLine; decide, fun l6 n6 => ?_⟩
  have s6 := same_new (o := .lst ([V.int 6] ++ (List.replicate 6 [V.int 4]).flatten ++ [V.int (6 + 1)])) n6
  refine ⟨by show 3 ≤ sizeLine; decide, fun l7 n7 => ?_⟩
  have s7 := same_new (o := .lst [.int 6, .int 3, .int 6]) n7
  refine ⟨_, rfl, l7, _, _, rfl, rfl, upd_same, by decide, by decide, by show 3 * 6 ≤ sizeLine; decide, fun l8 n8 => ?_⟩
  have s8 := same_new (o := .lst (List.replicate 6 [V.int 6, V.int 3, V.int 6]).flatten) n8
  refine ⟨l6, l8, _, _, rfl, rfl, s8 _ _ (s7 _ _ upd_same), upd_same, by show 8 + 18 ≤ sizeLine; decide, fun l9 n9 => ?_⟩
  have s9 := same_new (o := .lst ([V.int 6] ++ (List.replicate 6 [V.int 4]).flatten ++ [V.int (6 + 1)] ++ (List.replicate 6 [V.int 6, V.int 3, V.int 6]).flatten)) n9
  have sA := s1.trans (s2.trans (s3.trans (s4.trans (s5.trans (s6.trans (s7.trans (s8.trans s9)))))))
  refine ⟨c, l9, [6, 4, 4, 4, 4, 4, 4, 7, 6, 3, 6, 6, 3, 6, 6, 3, 6, 6, 3, 6, 6, 3, 6, 6, 3, 6], rfl, SqL.of upd_same, by decide, by decide, fun H1 dr ds sB hdr hdl hds => ?_⟩
  have sm1 := sA.trans sB
  have draw := drawnAt hdl hds
  clear sA sB s1 s2 s3 s4 s5 s6 s7 s8 s9
  -- the knots
  obtain ⟨x0, e0, g0, g0'⟩ := draw 0 6 rfl
  refine ⟨rfl, fun kl nkl => ?_⟩
  have s10 := same_new (o := .lst (knotsL.map V.str)) nkl
  refine ⟨_, rfl, dr, _, _, _, rfl, rfl, SqL.of (s10 _ _ hdr), atInt e0 rfl, _, _, rfl, rfl, _, rfl, kl, _, rfl, SqL.of upd_same, fun kh nkh => ?_⟩
  rw [cut_take _ (by omega), ← List.map_take]
  have hknl : (knotsL.take (1 + x0).toNat).length = (1 + x0).toNat := by
    rw [List.length_take]
    exact Nat.min_eq_left (by show (1 + x0).toNat ≤ 6; omega)
  have hknd : (knotsL.take (1 + x0).toNat).Nodup := knots_nodup.sublist (List.take_sublist _ _)
  have hknS : ∀ x ∈ knotsL.take (1 + x0).toNat, PyData.strOk x = true := fun x hx => List.all_eq_true.mp knots_ok x (List.mem_of_mem_take hx)
  generalize knotsL.take (1 + x0).toNat = kn at hknl hknd hknS
  have hkn1 : 1 ≤ kn.length := by omega
  have hkn6 : kn.length ≤ 6 := by omega
  have s11 := same_new (o := .lst (kn.map V.str)) nkh
  have sm2 := (sm1.trans s10).trans s11
  have hdr2 := s11 _ _ (s10 _ _ hdr)
  have hkh : upd (upd H1 kl (.lst (knotsL.map V.str))) kh (.lst (kn.map V.str)) kh = some (.lst (kn.map V.str)) := upd_same
  generalize upd (upd H1 kl (.lst (knotsL.map V.str))) kh (.lst (kn.map V.str)) = H2 at sm2 hdr2 hkh ⊢
  -- marks_here = {}
  intro dm ndm
  have s12 : Same H2 (upd H2 dm (.dK [])) := same_new ndm
  refine ⟨_, rfl, kh, _, rfl, .inl (SqL.of (s12 _ _ hkh)), _, rfl, ?_, ?_, ?_⟩
  · omega
  · rw [List.length_map]; omega
  rw [show ((((kn.map V.str).length : Nat) : Int)).toNat = kn.length by rw [List.length_map]; omega]
  refine for_range (lo := 0) (n := kn.length) (fun i σ H' => ∃ (o5 : Option V) (ks : List (Str × List Str)) (kvs : List (Key × V)), σ = [some (.int c), some (.int 6), some (.ref dr), some (.ref kh), some (.ref dm), o5, none, none, none, none] ∧ Same H2 H' ∧
      H' dm = some (.dK kvs) ∧ kvs.map (·.1) = ks.map (fun k => (Sum.inr k.1 : Key)) ∧ ks.map (·.1) = kn.take i ∧ ∀ k ∈ ks, k.2.length ≤ 2 ∧ ∃ m, valV kvs (Sum.inr k.1) = some (.ref m) ∧ H' m = some (.lst (k.2.map V.str)))
    ⟨none, [], [], rfl, s12, upd_same, rfl, rfl, fun k hk => by cases hk⟩ ?_ ?_
  · rintro i σ H' hi ⟨o5, ks, kvs, rfl, sm, hdm, hkv, hks, hmk⟩
    have hsz : ks.length ≤ 6 := by
      have := congrArg List.length hks
      rw [List.length_map, List.length_take] at this
      omega
    have hkvl : kvs.length = ks.length := by have := congrArg List.length hkv; simpa using this
    obtain ⟨xi, exi, gxi, gxi'⟩ := draw (1 + i) 4 (ns_marks i (by omega))
    have hki : kn[i]? = some kn[i] := List.getElem?_eq_getElem hi
    generalize kn[i] = name at hki
    refine ⟨2, rfl, by decide, by decide, fun D hD => ?_⟩
    refine lc_range (lo := 0) (n := 2) (fun j H3 => Same H' H3 ∧ ∃ ms : List Str, ms.length ≤ j ∧ H3 D = some (.lst (ms.map V.str))) ⟨same_new hD, [], Nat.le_refl _, upd_same⟩ ?_ ?_
    · rintro j H3 hj ⟨sm3, ms, hms, hDi⟩
      refine ⟨rfl, _, rfl, _, rfl, _, _, rfl, rfl, dr, _, _, _, rfl, rfl, SqL.of (sm3 _ _ (sm _ _ hdr2)), atInt exi (by omega), _, rfl, _, _, rfl, rfl, _, _, rfl, rfl, ⟨by omega, by omega⟩, _, _, rfl, rfl, (by show (0 : Int) < 2; decide), rfl, _, rfl, ?_⟩
      refine ite_b (fun _ => ?_) (fun _ => ⟨sm3, ms, by omega, hDi⟩)
      refine ⟨rfl, fun ml hml => ?_⟩
      obtain ⟨m, _, em⟩ := atI_strs (xs := marksL) (i := 0 + (j : Nat)) (by omega) (by show (0 : Int) + (j : Nat) < 2; omega)
      have sm4 : Same H3 (upd H3 ml (.lst (marksL.map V.str))) := same_new hml
      refine ⟨_, rfl, ml, _, _, _, rfl, rfl, SqL.of upd_same, em, ?_⟩
      refine ⟨_, sm4 _ _ hDi, by rw [List.length_map]; exact line_lt (by omega), same_put (sm3.trans sm4) hD, ms ++ [m], by rw [List.length_append, List.length_singleton]; omega, by rw [upd_same, List.map_append]; rfl⟩
    · rintro H3 ⟨sm3, ms, hms, hD3⟩
      have hat : atI (kn.map V.str) (0 + (i : Nat)) = some (.str name) := by
        rw [Int.zero_add]
        exact atI_nat (by rw [List.getElem?_map, hki]; rfl)
      have hnew : name ∉ ks.map (·.1) := by
        rw [hks]
        intro hm
        obtain ⟨j, hj, e⟩ := List.getElem_of_mem hm
        rw [List.length_take] at hj
        rw [List.getElem_take] at e
        have h1 := (List.getElem?_eq_some_iff.mp hki).2
        exact List.pairwise_iff_getElem.mp hknd j i (by omega) hi (by omega) (e.trans h1.symm)
      have hnone := valV_none_of hkv hnew
      refine ⟨_, rfl, _, rfl, _, rfl, kh, _, _, _, rfl, rfl, SqL.of (sm3 _ _ (sm _ _ hkh)), hat, dm, _, rfl, DPut.k (k := Sum.inr name) (sm3 _ _ hdm) (line_lt (by omega)), ?_⟩
      rw [putK_new _ hnone]
      have kp : ∀ {m u}, H3 m = some u → m ≠ dm → upd H3 dm (.dK (kvs ++ [(Sum.inr name, .ref D)])) m = some u := fun h h' => by rw [upd_ne h']; exact h
      refine ⟨_, ks ++ [(name, ms)], _, rfl, same_put (sm.trans sm3) ndm, upd_same, by rw [List.map_append, List.map_append, hkv]; rfl, by rw [List.map_append, hks, take_get hki]; rfl, fun k hk => ?_⟩
      rcases List.mem_append.mp hk with hk | hk
      · obtain ⟨q1, m, q2, q3⟩ := hmk k hk
        exact ⟨q1, m, snoc_old q2 hnone, kp (sm3 _ _ q3) (ne_of q3 hdm (by intro z; cases z))⟩
      · rw [List.mem_singleton.mp hk]
        exact ⟨hms, D, snoc_new hnone, kp hD3 (fun e => by rw [e, sm3 _ _ hdm] at hD3; cases hD3)⟩
  · rintro σ H3 ⟨o5, ks, kvs, rfl, sm, hdm, hkv, hks, hmk⟩
    rw [List.take_length] at hks
    have hdr3 := sm _ _ hdr2
    have hkh3 := sm _ _ hkh
    -- ties = {}
    intro tm ntm
    obtain ⟨x7, e7, g7, g7'⟩ := draw 7 7 rfl
    have s13 : Same H3 (upd H3 tm (.dT [])) := same_new ntm
    refine ⟨_, rfl, dr, _, _, _, rfl, rfl, SqL.of (s13 _ _ hdr3), atInt e7 rfl, _, rfl, ?_, ?_, ?_⟩
    · omega
    · omega
    refine for_range (lo := 0) (n := x7.toNat) (fun i σ H' => ∃ (o6 o8 o9 : Option V) (ts : List Step), σ = [some (.int c), some (.int 6), some (.ref dr), some (.ref kh), some (.ref dm), o5, o6, some (.ref tm), o8, o9] ∧ Same H3 H' ∧
        H' tm = some (.dT (tieD ts)) ∧ ts.Nodup ∧ ts.length ≤ i ∧ ∀ t ∈ ts, (t.1 ∈ kn ∧ t.2.2 ∈ kn) ∧ PyData.strOk t.2.1 = true)
      ⟨none, none, none, [], rfl, s13, upd_same, List.nodup_nil, Nat.le_refl _, fun t ht => by cases ht⟩ ?_ ?_
    · rintro j σ H' hj ⟨o6, o8, o9, ts, rfl, sm4, htm, hnd, htl, hin⟩
      have hj6 : j < 6 := by omega
      obtain ⟨n8, n9, n10⟩ := ns_ties j hj6
      obtain ⟨a8, e8, g8, _⟩ := draw (8 + 3 * j) 6 n8
      obtain ⟨a9, e9, g9, g9'⟩ := draw (9 + 3 * j) 3 n9
      obtain ⟨a10, e10, g10, _⟩ := draw (10 + 3 * j) 6 n10
      have hlen : ((kn.map V.str).length : Int) = (kn.length : Nat) := by rw [List.length_map]
      have hpos : (0 : Int) < ((kn.map V.str).length : Nat) := by rw [List.length_map]; omega
      obtain ⟨one, hone, eone⟩ := atI_strs (xs := kn) (i := a8 % ((kn.map V.str).length : Nat)) (Int.emod_nonneg _ (by omega)) (by have := Int.emod_lt_of_pos a8 hpos; rw [List.length_map] at this ⊢; exact this)
      obtain ⟨oth, hoth, eoth⟩ := atI_strs (xs := kn) (i := a10 % ((kn.map V.str).length : Nat)) (Int.emod_nonneg _ (by omega)) (by have := Int.emod_lt_of_pos a10 hpos; rw [List.length_map] at this ⊢; exact this)
      obtain ⟨wd, hwd, ewd⟩ := atI_strs (xs := wordsL) (i := a9) g9 (by show a9 < 3; exact g9')
      have hdr4 := SqL.of (K := K) (sm4 _ _ hdr3)
      have hkh4 := SqL.of (K := K) (sm4 _ _ hkh3)
      refine ⟨_, rfl, _, rfl, _, rfl, _, _, rfl, rfl, .inl ⟨by omega, by omega⟩, _, _, rfl, rfl, dr, _, _, _, rfl, rfl, hdr4, atInt e8 (by omega), _, rfl, kh, _, rfl, .inl hkh4, _, _, rfl, rfl, hpos, kh, _, _, _, rfl, rfl, hkh4, eone, ?_⟩
      refine ⟨_, rfl, _, rfl, _, rfl, _, _, rfl, rfl, .inl ⟨by omega, by omega⟩, _, _, rfl, rfl, dr, _, _, _, rfl, rfl, hdr4, atInt e10 (by omega), _, rfl, kh, _, rfl, .inl hkh4, _, _, rfl, rfl, hpos, kh, _, _, _, rfl, rfl, hkh4, eoth, ?_⟩
      refine ⟨_, rfl, _, rfl, rfl, fun wl hwl => ?_⟩
      have s14 : Same H' (upd H' wl (.lst (wordsL.map V.str))) := same_new hwl
      refine ⟨_, rfl, _, rfl, _, _, rfl, rfl, .inl ⟨by omega, by omega⟩, _, _, rfl, rfl, dr, _, _, _, rfl, rfl, s14.seq hdr4, atInt e9 (by omega), wl, _, _, _, rfl, rfl, SqL.of upd_same, ewd, _, rfl, by show 3 ≤ sizeLine; decide, fun b hb => ?_⟩
      have s15 := s14.trans (same_new (o := .tup [.str one, .str wd, .str oth]) hb)
      refine ⟨tm, _, rfl, DPut.t (k := tieK (one, wd, oth)) (s15 _ _ htm) upd_same (by unfold tieD; rw [List.length_map]; exact line_lt (by omega)), ?_⟩
      rw [tieD_put]
      refine ⟨_, _, _, insS ts (one, wd, oth), rfl, same_put (sm4.trans s15) ntm, upd_same, nodup_insS hnd, by have := length_insS ts (one, wd, oth); omega, fun t ht => ?_⟩
      rcases mem_insS.mp ht with ht | ht
      · exact hin t ht
      · rw [ht]
        exact ⟨⟨hone, hoth⟩, List.all_eq_true.mp words_okL wd hwd⟩
    · rintro σ H4 ⟨o6, o8, o9, ts, rfl, sm4, htm, hnd, htl, hin⟩
      refine ⟨_, rfl, _, rfl, tm, _, rfl, .inl htm, fun p bs hp hbs => ?_⟩
      have s16 : Same H4 (upd H4 p (.lst (bs.map V.ref))) := same_new hp
      refine ⟨by show 2 ≤ sizeLine; decide, fun r hr0 => ?_⟩
      have s17 := s16.trans (same_new (o := .tup [.ref dm, .ref p]) hr0)
      have s18 := sm4.trans s17
      refine q _ r ks ts ((sm2.trans sm).trans s18) ⟨dm, p, kvs, bs.map V.ref, SqT.of upd_same, s18 _ _ hdm, hkv, fun k hk => ?_, same_new hr0 _ _ upd_same, DtAll.same s17 (keys_list hbs)⟩ ⟨by rw [hks]; exact hknd, ?_, ?_, fun k hk => ?_, hnd, by omega, fun t ht => ?_, fun k hk => hknS _ (by rw [← hks]; exact List.mem_map.mpr ⟨k, hk, rfl⟩), fun t ht => (hin t ht).2⟩
      · obtain ⟨_, m, q2, q3⟩ := hmk k hk
        exact ⟨m, q2, s18 _ _ q3⟩
      · have := congrArg List.length hks
        rw [List.length_map] at this
        omega
      · intro e
        rw [e] at hks
        rw [← hks] at hkn1
        exact absurd hkn1 (by simp)
      · have := (hmk k hk).1
        omega
      · rw [hks]
        exact (hin t ht).1
end
end PK
set_option Elab.async false
set_option linter.all false
set_option maxRecDepth 100000
set_option autoImplicit false
set_option maxHeartbeats 4000000
/-! A web laid from rows. -/
namespace PK
open PySem PySem.Spec PyProof.Rows L2
section
variable {P : Program} {w : World} {K : PySem.W.Frag} {mg : Str → Option Value} {base : Heap}

abbrev slaid : Stmt := top 27
abbrev Nsclaid : List Str := ["_law_rows_here", "_law_web", "_law_knot", "_law_one", "_law_word", "_law_other"]
theorem sclaid : FnScope Nsclaid ["_law_rows_here"] (defScope slaid) := ⟨rfl, rfl, rfl, by decide +kernel, rfl, by decide +kernel, by decide +kernel⟩
def spLaid (K : PySem.W.Frag) (C : Addr) : Sp := fun vs H Q _ => ∃ (r : Addr) (ks : List (Str × List Str)) (ts : List Step), vs = [.ref r] ∧ RowsAt K H r ks ts ∧ RowsOk ks ts ∧ ∀ (H' : Hp) (p : Addr), Same H H' → WebRd C H' p ks → Q (.ref p) H'
theorem ok_laid {f C : Addr} {fd : FuncData} (F : Fun K "_law_laid" "_law_laid" slaid f fd) (G : Gs K mg) (ClWeb : WebC K C) (MkWeb : MkDef P w K mg base 1 "Web" C (spWInit C)) (DWeb_put_knot : MDef P w K mg base 2 C "put_knot" ["self", "name", "marks"] (spPutKnot K C))
    (DWeb_put_tie : MDef P w K mg base 2 C "put_tie" ["self", "one", "word", "other"] (spPutTie C)) : FnOk P w K mg base CX0 3 f fd ["_law_rows_here"] (spLaid K C) := by
  refine F.ok sclaid (fun vs H Q E h => ?_) (fun cdv A outer s H vs Q E hr h => ?_)
  · obtain ⟨r, ks, ts, rfl, _⟩ := h
    rfl
  obtain ⟨r, ks, ts, rfl, ⟨rd, rl, kvs, tv, r1, r2, r3, r4, r5, r6⟩, hok, q⟩ := h
  refine ⟨_, (pss_cons (ps_set (i := 1) sclaid.nd rfl (Or.inl rfl) (pe_mk0 MkWeb (hr.mono (by omega)) rfl)) (pss_cons (ps_for PassesOwn.never rfl (RT.pi_revA (by rfl) G.reversed (pe_callTy (call_list_dK rfl) (by rfl) G.list boot_list (pa_cons (pe_ix ix_tup (pv 0) pe_int (fun _ _ => rfl)) pa_nil))) (pg_name (i := 2) sclaid.nd rfl (Or.inl rfl)) (pss_one (ps_expr (pe_mdef (pv 1) ClWeb.cl DWeb_put_knot (hr.mono (by omega)) (pa_cons (pv 2) (pa_cons (pe_callTy call_list_of (by rfl) G.list boot_list (pa_cons (pe_dget (hu_of hr) (pe_ix ix_tup (pv 0) pe_int (fun _ _ => rfl)) (pv 2) (fun _ _ => rfl)) pa_nil)) pa_nil)))))) (pss_cons (ps_for PassesOwn.never rfl (pi_list (pe_ix ix_tup (pv 0) pe_int (fun _ _ => rfl))) (pg_tup rfl (pgs_cons (pg_name (i := 3) sclaid.nd rfl (Or.inl rfl)) (pgs_cons (pg_name (i := 4) sclaid.nd rfl (Or.inl rfl)) (pgs_cons (pg_name (i := 5) sclaid.nd rfl (Or.inl rfl)) pgs_nil)))) (pss_one (ps_expr (pe_mdef (pv 1) ClWeb.cl DWeb_put_tie (hr.mono (by omega)) (pa_cons (pv 3) (pa_cons (pv 4) (pa_cons (pv 5) pa_nil))))))) (pss_one (ps_ret (pv 1)))))), ?_⟩
  have hkl : kvs.length = ks.length := by have := congrArg List.length r3; simpa using this
  have htl := r6.mapLen
  have hfew := hok.few
  have htf := hok.tfew
  -- web = Web()
  intro p dx hp0 hdx hne
  have s00 : Same H (upd (upd H dx (.own p)) p (.ins C dx [])) := fun b o e => by
    rw [upd_ne (ne_of_none e hp0), upd_ne (ne_of_none e hdx)]
    exact e
  refine ⟨H, p, dx, rfl, s00, hp0, upd_same, fun H1 hW1 => ⟨rfl, ?_⟩⟩
  have s1 := hW1.1
  -- reversed(list(rows[0]))
  refine ⟨_, rfl, r, _, 0, _, rfl, rfl, same_seqT s1 r1, at0, rd, kvs, rfl, s1 _ _ r2, fun l hl => ?_⟩
  have hW2 := hW1.rebase (o := .lst (kvs.map fun kv => kV kv.1)) hl
  have hl0 : H l = none := s1.free hl
  have sH : Same H (upd H l (.lst (kvs.map fun kv => kV kv.1))) := same_new hl0
  refine ⟨l, _, rfl, .inl ⟨SqL.of upd_same, ?_⟩⟩
  have hl2 : upd H l (.lst (kvs.map fun kv => kV kv.1)) l = some (.lst (kvs.map fun kv => kV kv.1)) := upd_same
  generalize upd H1 l (.lst (kvs.map fun kv => kV kv.1)) = H2 at hW2 ⊢
  generalize upd H l (.lst (kvs.map fun kv => kV kv.1)) = H0 at hW2 sH hl2
  have hxl : (kvs.map fun kv => kV kv.1).length = ks.length := by rw [List.length_map]; exact hkl
  refine RT.for_Itv (xs := kvs.map fun kv => kV kv.1) (fun i σ H' => ∃ o2 : Option V, σ = [some (.ref r), some (.ref p), o2, none, none, none] ∧ WebAt C H0 H' p (ks.reverse.take i) [])
    ⟨none, rfl, hW2⟩ (fun i σ H' ⟨_, _, hW⟩ => SqL.of (hW.1 _ _ hl2)) ?_ ?_
  · rintro i x σ H' hi hx ⟨o2, rfl, hW⟩
    rw [hxl] at hi hx
    have hrev : ks.reverse[i]? = ks[ks.length - 1 - i]? := List.getElem?_reverse hi
    have hj : ks[ks.length - 1 - i]? = some (ks[ks.length - 1 - i]'(by omega)) := List.getElem?_eq_getElem (by omega)
    generalize (ks[ks.length - 1 - i]'(by omega)) = kk at hj
    have hxk : x = .str kk.1 := by
      have h1 : (kvs.map (·.1))[ks.length - 1 - i]? = (ks.map (fun k => (Sum.inr k.1 : Key)))[ks.length - 1 - i]? := by rw [r3]
      rw [List.getElem?_map, List.getElem?_map, hj] at h1
      rw [List.getElem?_map] at hx
      cases e : kvs[ks.length - 1 - i]? with
      | none => rw [e] at h1; cases h1
      | some kv =>
        rw [e] at h1 hx
        have h2 : kv.1 = Sum.inr kk.1 := Option.some.inj h1
        have h3 : kV kv.1 = x := Option.some.inj hx
        rw [← h3, h2]
        rfl
    subst hxk
    have hmem := List.mem_of_getElem? hj
    obtain ⟨m, g1, g2⟩ := r4 kk hmem
    have sm := sH.trans hW.1
    obtain ⟨_, _, _, dx', a1, a2, a3, kvs', svs', h1, _⟩ := id hW
    refine ⟨_, rfl, p, dx', _, rfl, h1, webF_no _ _ _ (by decide +kernel) (by decide +kernel) (by decide +kernel), _, rfl, _, rfl, r, _, 0, _, rfl, rfl, same_seqT sm r1, at0, _, rfl, rd, _, rfl, by rw [← g1]; exact DGet.k (k := Sum.inr kk.1) (sm _ _ r2), m, _, rfl, .inl (SqL.of (sm _ _ g2)), fun l' nl' => ?_⟩
    have hnd : (ks.reverse.map (·.1)).Nodup := by rw [List.map_reverse]; exact (List.reverse_perm _).nodup_iff.mpr hok.nd
    have hni : kk.1 ∉ (ks.reverse.take i).map (·.1) := by
      intro hm
      have e : (ks.reverse.map (·.1)) = (ks.reverse.take i).map (·.1) ++ kk.1 :: (ks.reverse.drop (i + 1)).map (·.1) := by
        have h1 : i < ks.reverse.length := by rw [List.length_reverse]; exact hi
        have h2 : ks.reverse.drop i = kk :: ks.reverse.drop (i + 1) := by
          rw [List.drop_eq_getElem_cons h1]
          congr 1
          have h3 := List.getElem?_eq_getElem h1
          rw [hrev, hj] at h3
          exact (Option.some.inj h3).symm
        have e2 : kk.1 :: (ks.reverse.drop (i + 1)).map (·.1) = (ks.reverse.drop i).map (·.1) := by rw [h2]; rfl
        rw [e2, ← List.map_append, List.take_append_drop]
      rw [e] at hnd
      exact (List.nodup_append.mp hnd).2.2 _ hm _ List.mem_cons_self rfl
    refine ⟨H0, p, l', kk.1, kk.2, _, [], rfl, hW.mono (same_new nl'), hni, by rw [List.length_take, List.length_reverse]; omega, SqL.of upd_same, fun H3 hW3 => ?_⟩
    refine ⟨_, rfl, ?_⟩
    rw [take_get (hrev.trans hj)]
    exact hW3
  · rintro σ H3 ⟨o2, rfl, hW3⟩
    rw [hxl, ← List.length_reverse, List.take_length] at hW3
    have sm := sH.trans hW3.1
    refine ⟨_, rfl, r, _, 1, _, rfl, rfl, same_seqT sm r1, at1, rl, rfl, ⟨_, SqL.of (sm _ _ r5)⟩, ?_⟩
    refine for_list (xs := tv) (fun i σ H' => ∃ o3 o4 o5 : Option V, σ = [some (.ref r), some (.ref p), o2, o3, o4, o5] ∧ WebAt C H0 H' p ks.reverse (ts.take i))
      ⟨none, none, none, rfl, hW3⟩ (fun i σ H' _ ⟨_, _, _, _, hW⟩ => SqL.of ((sH.trans hW.1) _ _ r5)) ?_ ?_
    · rintro i x σ H' hi ⟨o3, o4, o5, rfl, hW⟩
      obtain ⟨t, ht, hx⟩ := r6.mapGet hi
      have hi' : i < ts.length := (List.getElem?_eq_some_iff.mp ht).1
      obtain ⟨a, rfl, ha⟩ := stI hx
      have smi := sH.trans hW.1
      obtain ⟨_, _, _, dx', a1, a2, a3, kvs', svs', h1, _⟩ := id hW
      have hin := hok.tin t (List.mem_of_getElem? ht)
      have hm : ∀ y, y ∈ ks.map (·.1) → y ∈ ks.reverse.map (·.1) := fun y hy => by rw [List.map_reverse, List.mem_reverse]; exact hy
      have hnt : t ∉ ts.take i := fun hm => by
        obtain ⟨j, hj, e⟩ := List.getElem_of_mem hm
        rw [List.length_take] at hj
        rw [List.getElem_take] at e
        have h1 := (List.getElem?_eq_some_iff.mp ht).2
        exact List.pairwise_iff_getElem.mp hok.tnd j i (by omega) hi' (by omega) (e.trans h1.symm)
      refine ⟨a, _, rfl, same_seqT smi ha, rfl, _, _, rfl, _, _, rfl, _, _, rfl, rfl, ?_⟩
      refine ⟨_, rfl, p, dx', _, rfl, h1, webF_no _ _ _ (by decide +kernel) (by decide +kernel) (by decide +kernel), _, rfl, _, rfl, _, rfl, ?_⟩
      refine ⟨H0, p, t, ks.reverse, ts.take i, rfl, hW, hnt, by rw [List.length_take]; omega, hm _ hin.1, hm _ hin.2, fun H4 hW4 => ?_⟩
      refine ⟨_, _, _, rfl, ?_⟩
      rw [take_get ht]
      exact hW4
    · rintro σ H4 ⟨o3, o4, o5, rfl, hW4⟩
      refine ⟨_, rfl, q H4 p (sH.trans hW4.1) (hW4.rd fun k hk => List.mem_reverse.mpr hk)⟩
end
end PK
set_option Elab.async false
set_option linter.all false
set_option maxRecDepth 100000
set_option autoImplicit false
set_option maxHeartbeats 4000000
/-! The steps of a knot, by rows. -/
namespace PK
open PySem PySem.Spec PyProof.Rows L2
section
variable {P : Program} {w : World} {K : PySem.W.Frag} {mg : Str → Option Value} {base : Heap}
theorem pg_tup3 {X : Cx} {a b c : Str} {pa pb pc pos : Pos} {i j k n : Nat} (hc : X.calm = true) (h1 : PG X (.Name a pa) (gName i)) (h2 : PG X (.Name b pb) (gName j)) (h3 : PG X (.Name c pc) (gName k)) :
    PG X (.Tuple [.Name a pa, .Name b pb, .Name c pc] n pos) (gTup X.K 3 (gCons (gName i) (gCons (gName j) (gCons (gName k) gNil)))) := pg_tup hc (pgs_cons h1 (pgs_cons h2 (pgs_cons h3 pgs_nil)))
/-- a step that can be compared -/
def StOk (s : Step) : Prop := PyData.strOk s.1 = true ∧ PyData.strOk s.2.1 = true ∧ PyData.strOk s.2.2 = true
theorem ok_on : PyData.strOk "on" = true := by decide +kernel
theorem ok_back : PyData.strOk "back" = true := by decide +kernel

abbrev ssteps : Stmt := top 28
abbrev Nscsteps : List Str := ["_law_rows_here", "_law_knot", "_law_found", "_law_one", "_law_word", "_law_other"]
theorem scsteps : FnScope Nscsteps ["_law_rows_here", "_law_knot"] (defScope ssteps) := ⟨rfl, rfl, rfl, by decide +kernel, rfl, by decide +kernel, by decide +kernel⟩
def spSteps (K : PySem.W.Frag) : Sp := fun vs H Q _ => ∃ (r : Addr) (k : Str) (ks : List (Str × List Str)) (ts : List Step), vs = [.ref r, .str k] ∧ RowsAt K H r ks ts ∧ RowsOk ks ts ∧
  ∀ (H' : Hp) (p : Addr) (xs : List V) (ss : List Step), Same H H' → H' p = some (.lst xs) → DtAll K H' xs (ss.map stD) → ss.length ≤ 20 → (∀ s ∈ ss, StOk s ∧ s.2.2 ∈ ks.map (·.1)) → Q (.ref p) H'
theorem ok_steps {f : Addr} {fd : FuncData} (F : Fun K "_law_steps" "_law_steps" ssteps f fd) (G : Gs K mg) : FnOk P w K mg base CX0 1 f fd ["_law_rows_here", "_law_knot"] (spSteps K) := by
  refine F.ok scsteps (fun vs H Q E h => ?_) (fun cdv A outer s H vs Q E hr h => ?_)
  · obtain ⟨r, k, ks, ts, rfl, _⟩ := h
    rfl
  obtain ⟨r, k, ks, ts, rfl, ⟨rd, rl, kvs, tv, r1, r2, r3, r4, r5, r6⟩, hok, q⟩ := h
  refine ⟨_, (pss_cons (ps_setLc (i := 2) (own := [("_law_one", 3), ("_law_word", 4), ("_law_other", 5)]) (g := gTup K 3 (gCons (gName 3) (gCons (gName 4) (gCons (gName 5) gNil)))) rfl scsteps.nd rfl rfl (sw_true rfl rfl rfl (by decide +kernel)) (pi_list (pe_ix ix_tup (pv 0) pe_int (fun _ _ => rfl))) (blkOk_by (N := Nscsteps) (sc := defScope ssteps) (by decide +kernel)) (fun _ _ _ _ _ => (pg_tup3 rfl (pg_name (i := 3) scsteps.nd rfl (Or.inl rfl)) (pg_name (i := 4) scsteps.nd rfl (Or.inl rfl)) (pg_name (i := 5) scsteps.nd rfl (Or.inl rfl)))) (fun _ _ _ _ _ => (pts_one (pt_cmpR op_eq (pv 3) (pv 1) (nomark _)))) (fun _ _ _ _ _ => (pe_tup (pa_cons pe_str (pa_cons (pv 4) (pa_cons (pv 5) pa_nil)))))) (pss_one (ps_ret (pe_callB (cr_sortedL stOrd hr.units) (by rfl) G.sorted boot_sorted (pa_cons (pe_op op_cat (pv 2) (pe_lc (own := [("_law_one", 3), ("_law_word", 4), ("_law_other", 5)]) (g := gTup K 3 (gCons (gName 3) (gCons (gName 4) (gCons (gName 5) gNil)))) rfl scsteps.nd (pi_list (pe_ix ix_tup (pv 0) pe_int (fun _ _ => rfl))) (blkOk_by (N := Nscsteps) (sc := defScope ssteps) (by decide +kernel)) (fun _ _ _ _ _ => (pg_tup3 rfl (pg_name (i := 3) scsteps.nd rfl (Or.inl rfl)) (pg_name (i := 4) scsteps.nd rfl (Or.inl rfl)) (pg_name (i := 5) scsteps.nd rfl (Or.inl rfl)))) (fun _ _ _ _ _ => (pts_one (pt_cmpR op_eq (pv 5) (pv 1) (nomark _)))) (fun _ _ _ _ _ => (pe_tup (pa_cons pe_str (pa_cons (pv 4) (pa_cons (pv 3) pa_nil))))))) pa_nil))))), ?_⟩
  have htl := r6.mapLen
  have htf := hok.tfew
  have kn : ∀ y ∈ ks.map (·.1), PyData.strOk y = true := fun y hy => by
    obtain ⟨z, hz, rfl⟩ := List.mem_map.mp hy
    exact hok.kok z hz
  refine ⟨_, rfl, r, _, 1, _, rfl, rfl, r1, at1, rl, rfl, ⟨_, SqL.of r5⟩, fun D hD => ?_⟩
  refine lc_list (xs := tv) (fun i H1 => Same H H1 ∧ ∃ (xs : List V) (ss : List Step), H1 D = some (.lst xs) ∧ DtAll K H1 xs (ss.map stD) ∧ ss.length ≤ i ∧ ∀ s ∈ ss, StOk s ∧ s.2.2 ∈ ks.map (·.1))
    ⟨same_new hD, [], [], upd_same, .nil, Nat.le_refl _, fun s hs => by cases hs⟩ (fun i H1 _ ⟨sm, _⟩ => SqL.of (sm _ _ r5)) ?_ ?_
  · rintro i x H1 hi ⟨sm, xs, ss, hDi, hxs, hl, hss⟩
    obtain ⟨t, ht, hx⟩ := r6.mapGet hi
    have hi' : i < ts.length := (List.getElem?_eq_some_iff.mp ht).1
    have hxl := hxs.mapLen
    have hmem := List.mem_of_getElem? ht
    obtain ⟨a, rfl, ha⟩ := stI hx
    refine ⟨a, _, rfl, same_seqT sm ha, rfl, _, _, rfl, _, _, rfl, _, _, rfl, rfl, rfl, _, rfl, _, rfl, rfl, _, rfl, ?_⟩
    refine ite_b (fun _ => ?_) (fun _ => ⟨sm, xs, ss, hDi, hxs, by omega, hss⟩)
    refine ⟨_, rfl, _, rfl, by show 3 ≤ sizeLine; decide, fun b hb => ?_⟩
    have s1 : Same H1 (upd H1 b (.tup [.str "on", .str t.2.1, .str t.2.2])) := same_new hb
    have kp : KeepT K (upd H1 b (.tup [.str "on", .str t.2.1, .str t.2.2])) (upd (upd H1 b (.tup [.str "on", .str t.2.1, .str t.2.2])) D (.lst (xs ++ [.ref b]))) := keepT_upd (fun ys h => by rw [s1 _ _ hDi] at h; cases h) (fun o ys h => by rw [s1 _ _ hDi] at h; cases h)
    refine ⟨_, s1 _ _ hDi, line_lt (by omega), same_put (sm.trans s1) hD, xs ++ [.ref b], ss ++ [(("on", t.2.1, t.2.2) : Step)], upd_same, ?_, by rw [List.length_append, List.length_singleton]; omega, fun s hs => ?_⟩
    · rw [List.map_append]
      exact (hxs.same s1 |>.keep kp).append (.cons ((stMk (s := ("on", t.2.1, t.2.2)) (SqT.of upd_same)).keep kp) .nil)
    · rcases List.mem_append.mp hs with hs | hs
      · exact hss s hs
      · rw [List.mem_singleton.mp hs]
        exact ⟨⟨ok_on, hok.wok t hmem, kn _ (hok.tin t hmem).2⟩, (hok.tin t hmem).2⟩
  · rintro H1 ⟨sm, xs, ss, hD1, hxs, hl, hss⟩
    have hxl := hxs.mapLen
    refine ⟨_, rfl, _, rfl, r, _, 1, _, rfl, rfl, same_seqT sm r1, at1, rl, rfl, ⟨_, SqL.of (sm _ _ r5)⟩, fun D2 hD2 => ?_⟩
    refine lc_list (xs := tv) (fun i H2 => Same H1 H2 ∧ ∃ (ys : List V) (us : List Step), H2 D2 = some (.lst ys) ∧ DtAll K H2 ys (us.map stD) ∧ us.length ≤ i ∧ ∀ s ∈ us, StOk s ∧ s.2.2 ∈ ks.map (·.1))
      ⟨same_new hD2, [], [], upd_same, .nil, Nat.le_refl _, fun s hs => by cases hs⟩ (fun i H2 _ ⟨sm2, _⟩ => SqL.of (sm2 _ _ (sm _ _ r5))) ?_ ?_
    · rintro i x H2 hi ⟨sm2, ys, us, hDi, hys, hul, hus⟩
      obtain ⟨t, ht, hx⟩ := r6.mapGet hi
      have hi' : i < ts.length := (List.getElem?_eq_some_iff.mp ht).1
      have hyl := hys.mapLen
      have hmem := List.mem_of_getElem? ht
      obtain ⟨a, rfl, ha⟩ := stI hx
      refine ⟨a, _, rfl, same_seqT (sm.trans sm2) ha, rfl, _, _, rfl, _, _, rfl, _, _, rfl, rfl, rfl, _, rfl, _, rfl, rfl, _, rfl, ?_⟩
      refine ite_b (fun _ => ?_) (fun _ => ⟨sm2, ys, us, hDi, hys, by omega, hus⟩)
      refine ⟨_, rfl, _, rfl, by show 3 ≤ sizeLine; decide, fun b hb => ?_⟩
      have s1 : Same H2 (upd H2 b (.tup [.str "back", .str t.2.1, .str t.1])) := same_new hb
      have kp : KeepT K (upd H2 b (.tup [.str "back", .str t.2.1, .str t.1])) (upd (upd H2 b (.tup [.str "back", .str t.2.1, .str t.1])) D2 (.lst (ys ++ [.ref b]))) := keepT_upd (fun ys h => by rw [s1 _ _ hDi] at h; cases h) (fun o ys h => by rw [s1 _ _ hDi] at h; cases h)
      refine ⟨_, s1 _ _ hDi, line_lt (by omega), same_put (sm2.trans s1) hD2, ys ++ [.ref b], us ++ [(("back", t.2.1, t.1) : Step)], upd_same, ?_, by rw [List.length_append, List.length_singleton]; omega, fun s hs => ?_⟩
      · rw [List.map_append]
        exact (hys.same s1 |>.keep kp).append (.cons ((stMk (s := ("back", t.2.1, t.1)) (SqT.of upd_same)).keep kp) .nil)
      · rcases List.mem_append.mp hs with hs | hs
        · exact hus s hs
        · rw [List.mem_singleton.mp hs]
          exact ⟨⟨ok_back, hok.wok t hmem, kn _ (hok.tin t hmem).1⟩, (hok.tin t hmem).1⟩
    · rintro H2 ⟨sm2, ys, us, hD2', hys, hul, hus⟩
      have hyl := hys.mapLen
      refine ⟨D, D2, _, _, rfl, rfl, sm2 _ _ hD1, hD2', line_big (by omega), fun M hM => ?_⟩
      have s3 : Same H2 (upd H2 M (.lst (xs ++ ys))) := same_new hM
      refine ⟨M, _, ss ++ us, rfl, SqL.of upd_same, by rw [List.map_append]; exact ((hxs.same (sm2.trans s3)).append (hys.same s3)), by rw [List.length_append]; omega, fun p zs hp hzs => ?_⟩
      have s4 := same_new (o := .lst zs) hp
      refine q _ p zs (srt stD (ss ++ us)) ((sm.trans sm2).trans (s3.trans s4)) upd_same (DtAll.same s4 hzs) ?_ fun s hs => ?_
      · rw [(List.mergeSort_perm _ _).length_eq, List.length_append]
        omega
      · rcases List.mem_append.mp ((List.mergeSort_perm _ _).mem_iff.mp hs) with h | h
        · exact hss s h
        · exact hus s h
end
end PK
set_option Elab.async false
set_option linter.all false
set_option maxRecDepth 100000
set_option autoImplicit false
set_option maxHeartbeats 4000000
/-! Ways from a knot, by rows. -/
namespace PK
open PySem PySem.Spec PyProof.Rows L2
section
variable {P : Program} {w : World} {K : PySem.W.Frag} {mg : Str → Option Value} {base : Heap}
def stepsD (ss : List Step) : PyData := .tuple (ss.map stD)
theorem atI_last {α : Type} {xs : List α} {x : α} (h : xs.getLast? = some x) : atI xs (-1) = some x := by
  have hl : 0 < xs.length := by
    cases xs with
    | nil => cases h
    | cons a r => exact Nat.succ_pos _
  unfold atI ixN
  rw [if_neg (by decide), if_pos (by omega)]
  show xs[(-1 + (xs.length : Int)).toNat]? = some x
  rw [show (-1 + (xs.length : Int)).toNat = xs.length - 1 by omega, ← List.getLast?_eq_getElem?]
  exact h
theorem steps_lay : ∀ ss : List Step, (∀ s ∈ ss, StOk s) → PyData.canLayAll0 (ss.map stD) = true
  | [], _ => rfl
  | s :: ss, h => by
    obtain ⟨h1, h2, h3⟩ := h s List.mem_cons_self
    rw [List.map_cons]
    simp only [PyData.canLayAll0, stD, PyData.canLay0, h1, h2, h3, Bool.and_true, steps_lay ss fun t ht => h t (List.mem_cons_of_mem _ ht)]
theorem steps_depth : ∀ ss : List Step, PyData.depthAll (ss.map stD) ≤ 1
  | [] => by decide
  | s :: ss => by
    have := steps_depth ss
    simp only [List.map_cons, PyData.depthAll, stD, PyData.depth]
    omega
theorem shaped_steps {ss : List Step} (h : ∀ s ∈ ss, StOk s) : SeqAt.shaped (.tuple (ss.map stD)) = true := by
  unfold SeqAt.shaped
  rw [Bool.and_eq_true, decide_eq_true_eq]
  have := steps_depth ss
  exact ⟨by rw [PyData.canLay0]; exact steps_lay ss h, by rw [PyData.depth]; omega⟩
theorem DtAll.take {H : Hp} {ds : List PyData} : ∀ {vs : List V} {n : Nat}, DtAll K H vs ds → DtAll K H (vs.take n) (ds.take n) := by
  intro vs n h
  refine DtAll.of (by rw [List.length_take, List.length_take, h.length]) fun i v d hv hd => ?_
  rw [List.getElem?_take] at hv hd
  split at hv
  · rename_i hlt
    rw [if_pos hlt] at hd
    obtain ⟨d', hd', q⟩ := h.getV hv
    rw [hd] at hd'
    cases hd'
    exact q
  · cases hv

abbrev sways : Stmt := top 37
abbrev Nscways : List Str := ["_law_rows_here", "_law_knot", "_law_most", "_law_cap", "_law_found", "_law_last", "_law_k", "_law_longer", "_law_steps_here", "_law_here", "_law_step"]
theorem scways : FnScope Nscways ["_law_rows_here", "_law_knot", "_law_most", "_law_cap"] (defScope sways) := ⟨rfl, rfl, rfl, by decide +kernel, rfl, by decide +kernel, by decide +kernel⟩
/-- a way's steps -/
def WOk (ks : List (Str × List Str)) (n : Nat) (ss : List Step) : Prop := ss.length ≤ n ∧ ∀ s ∈ ss, StOk s ∧ s.2.2 ∈ ks.map (·.1)
theorem WOk.mono {ks : List (Str × List Str)} {n m : Nat} {ss : List Step} (h : WOk ks n ss) (e : n ≤ m) : WOk ks m ss := ⟨Nat.le_trans h.1 e, h.2⟩
def spWays (K : PySem.W.Frag) : Sp := fun vs H Q _ => ∃ (r : Addr) (k : Str) (ks : List (Str × List Str)) (ts : List Step), vs = [.ref r, .str k, .int 3, .int 12] ∧ RowsAt K H r ks ts ∧ RowsOk ks ts ∧ k ∈ ks.map (·.1) ∧
  ∀ (H' : Hp) (p : Addr) (xs : List V) (wys : List (List Step)), Same H H' → H' p = some (.lst xs) → DtAll K H' xs (wys.map (wayD k)) → (∀ ss ∈ wys, WOk ks 3 ss) → Q (.ref p) H'
theorem ok_ways {f : Addr} {fd : FuncData} (F : Fun K "_law_ways" "_law_ways" sways f fd) (G : Gs K mg) (D_law_steps : Def P w K mg base 1 "_law_steps" ["_law_rows_here", "_law_knot"] (spSteps K)) : FnOk P w K mg base CX0 2 f fd ["_law_rows_here", "_law_knot", "_law_most", "_law_cap"] (spWays K) := by
  refine F.ok scways (fun vs H Q E h => ?_) (fun cdv A outer s H vs Q E hr h => ?_)
  · obtain ⟨r, k, ks, ts, rfl, _⟩ := h
    rfl
  obtain ⟨r, k, ks, ts, rfl, hR, hok, hk, q⟩ := h
  refine ⟨_, (pss_cons (ps_set (i := 4) scways.nd rfl (Or.inl rfl) (pe_lst (pa_cons (pe_tup pa_nil) pa_nil))) (pss_cons (ps_set (i := 5) scways.nd rfl (Or.inl rfl) (pe_lst (pa_cons (pe_tup pa_nil) pa_nil))) (pss_cons (ps_for PassesOwn.never rfl (pi_range1 rfl G.range (pa_cons (pv 2) pa_nil)) (pg_name (i := 6) scways.nd rfl (Or.inl rfl)) (pss_cons (ps_set (i := 7) scways.nd rfl (Or.inl rfl) (pe_lst pa_nil)) (pss_cons (ps_for PassesOwn.never rfl (pi_list (pv 5)) (pg_name (i := 8) scways.nd rfl (Or.inr rfl)) (pss_cons (ps_set (i := 9) scways.nd rfl (Or.inl rfl) (pv 1)) (pss_cons (ps_if (pt_cmpR (op_neD hr.units) (pv 8) (pe_tup pa_nil) (nomark _)) (pss_one (ps_set (i := 9) scways.nd rfl (Or.inl rfl) (pe_ix ix_tup (pe_ix ix_tup (pv 8) (pe_un un_neg pe_int) (fun _ _ => rfl)) pe_int (fun _ _ => rfl)))) pss_nil) (pss_one (ps_expr (pe_bm PySem.F.plainAttrs_list PySem.F.slot_list_extend PySem.F.type_list_extend mt_extend (pv 7) (pa_cons (pe_lc (own := [("_law_step", 10)]) rfl scways.nd (pi_list (pe_def D_law_steps (hr.mono (by omega)) rfl (pa_cons (pv 0) (pa_cons (pv 9) pa_nil)))) (blkOk_by (N := Nscways) (sc := defScope sways) (by decide +kernel)) (fun _ _ _ _ _ => (pg_name (i := 10) scways.nd rfl (Or.inl rfl))) (fun _ _ _ _ _ => pts_nil) (fun _ _ _ _ _ => (pe_op (r := rCatA K) op_catA (pv 8) (pe_tup (pa_cons (pv 10) pa_nil))))) pa_nil))))))) (pss_cons (ps_set (i := 5) scways.nd rfl (Or.inl rfl) (pe_slice sl_list (pv 7) po_none (po_some (pv 3)))) (pss_one (ps_set (i := 4) scways.nd rfl (Or.inl rfl) (pe_op op_cat (pv 4) (pv 5)))))))) (pss_one (ps_ret (pe_lc (own := [("_law_steps_here", 8)]) rfl scways.nd (pi_list (pv 4)) (blkOk_by (N := Nscways) (sc := defScope sways) (by decide +kernel)) (fun _ _ _ _ _ => (pg_name (i := 8) scways.nd rfl (Or.inl rfl))) (fun _ _ _ _ _ => pts_nil) (fun _ _ _ _ _ => (pe_tup (pa_cons (pv 1) (pa_cons (pv 8) pa_nil)))))))))), ?_⟩
  -- found = [()], last = [()]
  refine ⟨by show 0 ≤ sizeLine; decide, fun e1 he1 => ⟨by show 1 ≤ sizeLine; decide, fun fr hfr => ?_⟩⟩
  have t1 : Same H (upd H e1 (.tup [])) := same_new he1
  have t2 := t1.trans (same_new (o := .lst [.ref e1]) hfr)
  refine ⟨by show 0 ≤ sizeLine; decide, fun e2 he2 => ⟨by show 1 ≤ sizeLine; decide, fun lr hlr => ?_⟩⟩
  have u1 : Same (upd (upd H e1 (.tup [])) fr (.lst [.ref e1])) _ := same_new (o := .tup []) he2
  have u2 := u1.trans (same_new (o := .lst [.ref e2]) hlr)
  refine ⟨_, rfl, 3, rfl, by decide, by decide, ?_⟩
  refine for_range (lo := 0) (n := 3) (fun i σ H' => ∃ (o6 o7 o8 o9 : Option V) (fr lr : Addr) (fx lx : List V) (fw lw : List (List Step)), σ = [some (.ref r), some (.str k), some (.int 3), some (.int 12), some (.ref fr), some (.ref lr), o6, o7, o8, o9, none] ∧ Same H H' ∧
      H' fr = some (.lst fx) ∧ DtAll K H' fx (fw.map stepsD) ∧ fw.length ≤ 1 + 12 * i ∧ (∀ ss ∈ fw, WOk ks i ss) ∧ H' lr = some (.lst lx) ∧ DtAll K H' lx (lw.map stepsD) ∧ lw.length ≤ 12 ∧ ∀ ss ∈ lw, WOk ks i ss)
    ⟨none, none, none, none, fr, lr, [.ref e1], [.ref e2], [[]], [[]], rfl, t2.trans u2, u2 _ _ upd_same, .cons (.tup (SqT.of (u2 _ _ (same_new hfr _ _ upd_same))) .nil) .nil, by decide, fun ss hs => by rw [List.mem_singleton.mp hs]; exact ⟨Nat.le_refl _, fun s h => by cases h⟩,
      upd_same, .cons (.tup (SqT.of (same_new hlr _ _ upd_same)) .nil) .nil, by decide, fun ss hs => by rw [List.mem_singleton.mp hs]; exact ⟨Nat.le_refl _, fun s h => by cases h⟩⟩ ?_ ?_
  · clear t1 t2 u1 u2
    rintro i σ H1 hi ⟨o6, o7, o8, o9, fr, lr, fx, lx, fw, lw, rfl, sm1, hfr1, hfw, hfl, hfo, hlr1, hlw, hll, hlo⟩
    have hfl' := hfw.length
    rw [List.length_map] at hfl'
    have hll' := hlw.length
    rw [List.length_map] at hll'
    -- longer = []
    refine ⟨by show 0 ≤ sizeLine; decide, fun gr hgr0 => ?_⟩
    refine ⟨_, rfl, lr, rfl, ⟨_, SqL.of (same_new hgr0 _ _ hlr1)⟩, ?_⟩
    refine for_list (xs := lx) (fun j σ H' => ∃ (o8 o9 : Option V) (gx : List V) (gw : List (List Step)), σ = [some (.ref r), some (.str k), some (.int 3), some (.int 12), some (.ref fr), some (.ref lr), some (.int (0 + (i : Nat))), some (.ref gr), o8, o9, none] ∧ Same H1 H' ∧
        H' gr = some (.lst gx) ∧ DtAll K H' gx (gw.map stepsD) ∧ gw.length ≤ 20 * j ∧ ∀ ss ∈ gw, WOk ks (i + 1) ss)
      ⟨o8, o9, [], [], rfl, same_new hgr0, upd_same, .nil, Nat.le_refl _, fun ss h => by cases h⟩ (fun j σ H' _ ⟨_, _, _, _, _, sm, _⟩ => SqL.of (sm _ _ hlr1)) ?_ ?_
    · rintro j x σ H2 hj ⟨o8, o9, gx, gw, rfl, sm, hg, hgw, hgl0, hgo⟩
      have hj' : j < lx.length := (List.getElem?_eq_some_iff.mp hj).1
      obtain ⟨ss, hs0, hx⟩ := hlw.mapGet hj
      have hss := hlo ss (List.mem_of_getElem? hs0)
      obtain ⟨a, sv, rfl, hsq, hsv⟩ := Dt.tupI (show Dt K H1 x (.tuple (ss.map stD)) from hx)
      have hsq := same_seqT sm hsq
      have hsv := hsv.same sm
      have hsl := hsv.mapLen
      have hss1 := hss.1
      have smH := sm1.trans sm
      -- here = knot; if steps != ()
      refine ⟨_, rfl, _, rfl, by show 0 ≤ sizeLine; decide, fun e0 he0 => ?_⟩
      have s3 : Same H2 (upd H2 e0 (.tup [])) := same_new he0
      refine ⟨.tuple (ss.map stD), .tuple [], .tup (same_seqT s3 hsq) (DtAll.dp (hsv.same s3)), .tup (SqT.of upd_same) .nil, shaped_steps fun s hs => (hss.2 s hs).1, shaped_nilT, _, rfl, ?_⟩
      rw [eqv_nilT]
      refine ite_b (fun c => ?_) (fun c => ?_)
      · obtain ⟨t, ht⟩ : ∃ t, ss.getLast? = some t := by
          cases hl : ss.getLast? with
          | some t => exact ⟨t, rfl⟩
          | none =>
            rw [List.getLast?_eq_none_iff] at hl
            rw [hl] at c
            cases c
        have htm : t ∈ ss := List.mem_of_getLast? ht
        have hti : ss[ss.length - 1]? = some t := by rw [← List.getLast?_eq_getElem?]; exact ht
        obtain ⟨v, hv, hvd⟩ := hsv.get (i := ss.length - 1) (d := stD t) (by rw [List.getElem?_map, hti]; rfl)
        have hat : atI sv (-1) = some v := atI_last (by rw [List.getLast?_eq_getElem?, hsl]; exact hv)
        obtain ⟨c1, rfl, hc1⟩ := stI hvd
        refine ⟨_, rfl, _, rfl, a, _, -1, _, rfl, rfl, same_seqT s3 hsq, hat, c1, _, 2, _, rfl, rfl, same_seqT s3 hc1, at2, ?_⟩
        refine ⟨_, rfl, Or.inl ⟨rfl, _, SqL.of (s3 _ _ hg)⟩, _, rfl, _, rfl, r, t.2.2, ks, ts, rfl, hR.same (smH.trans s3), hok, fun H4 p4 zs us s4 hp4 hzs hul hus => ?_⟩
        refine ⟨p4, rfl, ⟨_, SqL.of hp4⟩, fun D hD => ?_⟩
        refine lc_list (xs := zs) (fun m H5 => Same H4 H5 ∧ ∃ ys : List V, H5 D = some (.lst ys) ∧ DtAll K H5 ys (((us.take m).map fun t => ss ++ [t]).map stepsD)) ⟨same_new hD, [], upd_same, .nil⟩ (fun m H5 _ ⟨sm5, _⟩ => SqL.of (sm5 _ _ hp4)) ?_ ?_
        · rintro m x H5 hm ⟨sm5, ys, hDi, hys⟩
          obtain ⟨t, ht, hx⟩ := hzs.mapGet hm
          have hm' : m < us.length := (List.getElem?_eq_some_iff.mp ht).1
          have hyl := hys.length
          rw [List.length_map, List.length_map, List.length_take] at hyl
          have smA : Same H2 H5 := (s3.trans s4).trans sm5
          refine ⟨rfl, iteT (B := True) ?_⟩
          refine ⟨_, rfl, _, rfl, by show 1 ≤ sizeLine; decide, fun b hb => ?_⟩
          have s6 : Same H5 (upd H5 b (.tup [x])) := same_new hb
          have fin : ∀ (H6 : Hp) (z : Addr), Same H5 H6 → SqT K H6 z (sv ++ [x]) → ∃ acc, H6 D = some (.lst acc) ∧ acc.length < sizeLine ∧ Same H4 (upd H6 D (.lst (acc ++ [.ref z]))) ∧ ∃ ys : List V, upd H6 D (.lst (acc ++ [.ref z])) D = some (.lst ys) ∧ DtAll K (upd H6 D (.lst (acc ++ [.ref z]))) ys (((us.take (m + 1)).map fun t => ss ++ [t]).map stepsD) := fun H6 z s7 hz => by
            have kp : KeepT K H6 (upd H6 D (.lst (ys ++ [.ref z]))) := keepT_upd (fun ys h => by rw [s7 _ _ hDi] at h; cases h) (fun o ys h => by rw [s7 _ _ hDi] at h; cases h)
            refine ⟨_, s7 _ _ hDi, line_lt (by omega), same_put (sm5.trans s7) hD, _, upd_same, ?_⟩
            rw [take_get ht, List.map_append, List.map_append]
            refine ((hys.same s7).keep kp).append (.cons ?_ .nil)
            refine .tup (kp _ _ hz) ?_
            rw [List.map_append]
            exact ((hsv.same (smA.trans s7)).keep kp).append (.cons (((hx.same (sm5.trans s7))).keep kp) .nil)
          refine ⟨a, b, sv, [x], rfl, rfl, same_seqT (smA.trans s6) hsq, SqT.of upd_same, ?_, fun e => ?_, fun _ e => (by cases e), fun _ _ z hz => ?_⟩
          · show sv.length + 1 ≤ sizeLine
            exact line_big (by omega)
          · refine fin _ b s6 ?_
            rw [e]
            exact SqT.of upd_same
          · exact fin _ z (s6.trans (same_new hz)) (SqT.of upd_same)
        · rintro H5 ⟨sm5, ys, hD5, hys⟩
          have hul' := hzs.mapLen
          rw [hul', List.take_length] at hys
          have hyl := hys.length
          rw [List.length_map, List.length_map] at hyl
          have smA : Same H2 H5 := (s3.trans s4).trans sm5
          have hg5 := smA _ _ hg
          have hgl := hgw.length
          rw [List.length_map] at hgl
          have kp : KeepT K H5 (upd H5 gr (.lst (gx ++ ys))) := keepT_upd (fun ys h => by rw [hg5] at h; cases h) (fun o ys h => by rw [hg5] at h; cases h)
          refine ⟨gr, D, gx, ys, rfl, rfl, hg5, hD5, line_big (by omega), ?_⟩
          refine ⟨_, _, gx ++ ys, gw ++ us.map (fun t => ss ++ [t]), rfl, same_put (sm.trans smA) hgr0, upd_same, ?_, by rw [List.length_append, List.length_map]; omega, fun z hz => ?_⟩
          · rw [List.map_append]
            exact ((hgw.same smA).append hys).keep kp
          · rcases List.mem_append.mp hz with hz | hz
            · exact hgo z hz
            · obtain ⟨t, ht, rfl⟩ := List.mem_map.mp hz
              refine ⟨by rw [List.length_append, List.length_singleton]; have := hss.1; omega, fun u hu => ?_⟩
              rcases List.mem_append.mp hu with hu | hu
              · exact hss.2 u hu
              · rw [List.mem_singleton.mp hu]
                exact hus t ht
      · skip
        refine ⟨_, rfl, Or.inl ⟨rfl, _, SqL.of (s3 _ _ hg)⟩, _, rfl, _, rfl, r, k, ks, ts, rfl, hR.same (smH.trans s3), hok, fun H4 p4 zs us s4 hp4 hzs hul hus => ?_⟩
        refine ⟨p4, rfl, ⟨_, SqL.of hp4⟩, fun D hD => ?_⟩
        refine lc_list (xs := zs) (fun m H5 => Same H4 H5 ∧ ∃ ys : List V, H5 D = some (.lst ys) ∧ DtAll K H5 ys (((us.take m).map fun t => ss ++ [t]).map stepsD)) ⟨same_new hD, [], upd_same, .nil⟩ (fun m H5 _ ⟨sm5, _⟩ => SqL.of (sm5 _ _ hp4)) ?_ ?_
        · rintro m x H5 hm ⟨sm5, ys, hDi, hys⟩
          obtain ⟨t, ht, hx⟩ := hzs.mapGet hm
          have hm' : m < us.length := (List.getElem?_eq_some_iff.mp ht).1
          have hyl := hys.length
          rw [List.length_map, List.length_map, List.length_take] at hyl
          have smA : Same H2 H5 := (s3.trans s4).trans sm5
          refine ⟨rfl, iteT (B := True) ?_⟩
          refine ⟨_, rfl, _, rfl, by show 1 ≤ sizeLine; decide, fun b hb => ?_⟩
          have s6 : Same H5 (upd H5 b (.tup [x])) := same_new hb
          have fin : ∀ (H6 : Hp) (z : Addr), Same H5 H6 → SqT K H6 z (sv ++ [x]) → ∃ acc, H6 D = some (.lst acc) ∧ acc.length < sizeLine ∧ Same H4 (upd H6 D (.lst (acc ++ [.ref z]))) ∧ ∃ ys : List V, upd H6 D (.lst (acc ++ [.ref z])) D = some (.lst ys) ∧ DtAll K (upd H6 D (.lst (acc ++ [.ref z]))) ys (((us.take (m + 1)).map fun t => ss ++ [t]).map stepsD) := fun H6 z s7 hz => by
            have kp : KeepT K H6 (upd H6 D (.lst (ys ++ [.ref z]))) := keepT_upd (fun ys h => by rw [s7 _ _ hDi] at h; cases h) (fun o ys h => by rw [s7 _ _ hDi] at h; cases h)
            refine ⟨_, s7 _ _ hDi, line_lt (by omega), same_put (sm5.trans s7) hD, _, upd_same, ?_⟩
            rw [take_get ht, List.map_append, List.map_append]
            refine ((hys.same s7).keep kp).append (.cons ?_ .nil)
            refine .tup (kp _ _ hz) ?_
            rw [List.map_append]
            exact ((hsv.same (smA.trans s7)).keep kp).append (.cons (((hx.same (sm5.trans s7))).keep kp) .nil)
          refine ⟨a, b, sv, [x], rfl, rfl, same_seqT (smA.trans s6) hsq, SqT.of upd_same, ?_, fun e => ?_, fun _ e => (by cases e), fun _ _ z hz => ?_⟩
          · show sv.length + 1 ≤ sizeLine
            exact line_big (by omega)
          · refine fin _ b s6 ?_
            rw [e]
            exact SqT.of upd_same
          · exact fin _ z (s6.trans (same_new hz)) (SqT.of upd_same)
        · rintro H5 ⟨sm5, ys, hD5, hys⟩
          have hul' := hzs.mapLen
          rw [hul', List.take_length] at hys
          have hyl := hys.length
          rw [List.length_map, List.length_map] at hyl
          have smA : Same H2 H5 := (s3.trans s4).trans sm5
          have hg5 := smA _ _ hg
          have hgl := hgw.length
          rw [List.length_map] at hgl
          have kp : KeepT K H5 (upd H5 gr (.lst (gx ++ ys))) := keepT_upd (fun ys h => by rw [hg5] at h; cases h) (fun o ys h => by rw [hg5] at h; cases h)
          refine ⟨gr, D, gx, ys, rfl, rfl, hg5, hD5, line_big (by omega), ?_⟩
          refine ⟨_, _, gx ++ ys, gw ++ us.map (fun t => ss ++ [t]), rfl, same_put (sm.trans smA) hgr0, upd_same, ?_, by rw [List.length_append, List.length_map]; omega, fun z hz => ?_⟩
          · rw [List.map_append]
            exact ((hgw.same smA).append hys).keep kp
          · rcases List.mem_append.mp hz with hz | hz
            · exact hgo z hz
            · obtain ⟨t, ht, rfl⟩ := List.mem_map.mp hz
              refine ⟨by rw [List.length_append, List.length_singleton]; have := hss.1; omega, fun u hu => ?_⟩
              rcases List.mem_append.mp hu with hu | hu
              · exact hss.2 u hu
              · rw [List.mem_singleton.mp hu]
                exact hus t ht
    · rintro σ H2 ⟨o8, o9, gx, gw, rfl, sm, hg, hgw, hgl0, hgo⟩
      rw [hll'] at hgl0
      have hgl := hgw.length
      rw [List.length_map] at hgl
      refine ⟨_, rfl, _, rfl, _, rfl, gr, _, rfl, SqL.of hg, fun nl hnl => ?_⟩
      rw [cut_take _ (by decide)]
      have s3 : Same H2 (upd H2 nl (.lst (gx.take (12 : Int).toNat))) := same_new hnl
      refine ⟨_, rfl, _, rfl, fr, nl, _, _, rfl, rfl, s3 _ _ (sm _ _ hfr1), upd_same, line_big (by rw [List.length_take]; omega), fun nf hnf => ?_⟩
      have s4 := s3.trans (same_new (o := .lst (fx ++ gx.take (12 : Int).toNat)) hnf)
      have hT : DtAll K H2 (gx.take 12) ((gw.take 12).map stepsD) := by rw [List.map_take]; exact hgw.take
      have hTo : ∀ ss ∈ gw.take 12, WOk ks (i + 1) ss := fun ss hs => hgo ss (List.mem_of_mem_take hs)
      refine ⟨_, _, _, _, nf, nl, _, _, fw ++ gw.take 12, gw.take 12, rfl, (sm1.trans sm).trans s4, upd_same, ?_, by rw [List.length_append, List.length_take]; omega, fun ss hs => ?_, same_new hnf _ _ upd_same, hT.same s4, by rw [List.length_take]; omega, hTo⟩
      · rw [List.map_append]
        exact (hfw.same (sm.trans s4)).append (hT.same s4)
      · rcases List.mem_append.mp hs with hs | hs
        · exact (hfo ss hs).mono (Nat.le_succ _)
        · exact hTo ss hs
  · clear t1 t2 u1 u2
    rintro σ H1 ⟨o6, o7, o8, o9, fr, lr, fx, lx, fw, lw, rfl, sm1, hfr1, hfw, hfl, hfo, _⟩
    have hfl' := hfw.length
    rw [List.length_map] at hfl'
    refine ⟨_, rfl, fr, rfl, ⟨_, SqL.of hfr1⟩, fun D hD => ?_⟩
    refine lc_list (xs := fx) (fun i H2 => Same H1 H2 ∧ ∃ ys : List V, H2 D = some (.lst ys) ∧ DtAll K H2 ys ((fw.take i).map (wayD k))) ⟨same_new hD, [], upd_same, .nil⟩ (fun i H2 _ ⟨sm, _⟩ => SqL.of (sm _ _ hfr1)) ?_ ?_
    · rintro i x H2 hi ⟨sm, ys, hDi, hys⟩
      have hi' : i < fx.length := (List.getElem?_eq_some_iff.mp hi).1
      obtain ⟨ss, hs0, hx⟩ := hfw.mapGet hi
      have hyl := hys.length
      rw [List.length_map, List.length_take] at hyl
      refine ⟨rfl, iteT (B := True) ?_⟩
      refine ⟨_, rfl, _, rfl, by show 2 ≤ sizeLine; decide, fun b hb => ?_⟩
      have s2 : Same H2 (upd H2 b (.tup [.str k, x])) := same_new hb
      have kp : KeepT K (upd H2 b (.tup [.str k, x])) (upd (upd H2 b (.tup [.str k, x])) D (.lst (ys ++ [.ref b]))) := keepT_upd (fun ys h => by rw [s2 _ _ hDi] at h; cases h) (fun o ys h => by rw [s2 _ _ hDi] at h; cases h)
      refine ⟨_, s2 _ _ hDi, line_lt (by omega), same_put (sm.trans s2) hD, _, upd_same, ?_⟩
      rw [take_get hs0, List.map_append]
      exact ((hys.same s2).keep kp).append (.cons (.tup (kp _ _ (SqT.of upd_same)) (.cons (.str _) (.cons ((hx.same (sm.trans s2)).keep kp) .nil))) .nil)
    · rintro H2 ⟨sm, ys, hD2, hys⟩
      rw [hfl', List.take_length] at hys
      exact q H2 D ys fw (sm1.trans sm) hD2 hys hfo
end
end PK
set_option Elab.async false
set_option linter.all false
set_option maxRecDepth 100000
set_option autoImplicit false
set_option maxHeartbeats 4000000
/-! The law's look at a machine: stands, names, leaves. -/
namespace PK
open PySem PySem.Spec PyProof.Rows L2
section
variable {P : Program} {w : World} {K : PySem.W.Frag} {mg : Str → Option Value} {base : Heap}

abbrev sis_stand : Stmt := top 39
abbrev Nscis_stand : List Str := ["_law_thing", "_law_many"]
theorem scis_stand : FnScope Nscis_stand ["_law_thing", "_law_many"] (defScope sis_stand) := ⟨rfl, rfl, rfl, by decide +kernel, rfl, by decide +kernel, by decide +kernel⟩
def spIsStand : Sp := fun vs H Q _ => ∃ (i n : Int), vs = [.int i, .int n] ∧ 0 ≤ i ∧ i < n ∧ Q (.bl true) H
theorem ok_isStand {f : Addr} {fd : FuncData} (F : Fun K "_law_is_stand" "_law_is_stand" sis_stand f fd) (G : Gs K mg) : FnOk P w K mg base CX0 1 f fd ["_law_thing", "_law_many"] spIsStand := by
  refine F.ok scis_stand (fun vs H Q E h => ?_) (fun cdv A outer s H vs Q E hr h => ?_)
  · obtain ⟨i, n, rfl, _⟩ := h
    rfl
  obtain ⟨i, n, rfl, h0, h1, q⟩ := h
  refine ⟨_, (pss_one (ps_ret (pe_and (pe_callB call_isi (by rfl) G.isinstance boot_isinstance (pa_cons (pv 0) (pa_cons (pe_bltn (v := .ty "int") (by rfl) G.int boot_int rfl) pa_nil))) (pe_and (pe_not (pe_callB call_isi (by rfl) G.isinstance boot_isinstance (pa_cons (pv 0) (pa_cons (pe_bltn (v := .ty "bool") (by rfl) G.bool boot_bool rfl) pa_nil)))) (pe_one (pe_chain op_le op_lt pe_int (pv 0) (pv 1))))))), ?_⟩
  refine ⟨_, rfl, .int i, .ty "int", _, _, true, rfl, .ty "int", .base (.int i), kit_ty (by decide +kernel), ?_⟩
  refine ⟨true, rfl, iteT ?_⟩
  refine ⟨_, rfl, .int i, .ty "bool", _, _, false, rfl, .ty "bool", .base (.int i), kit_ty (by decide +kernel), ?_⟩
  refine ⟨false, rfl, true, rfl, iteT ?_⟩
  refine ⟨_, rfl, _, _, rfl, rfl, _, rfl, ite_t (decide_eq_true h0) ?_⟩
  refine ⟨_, rfl, _, _, rfl, rfl, ?_⟩
  show Q (.bl (decide (i < n))) H
  rw [decide_eq_true h1]
  exact q

/-- a name as the law takes it -/
def NameOk (x : Str) : Prop := 1 ≤ x.length ∧ x.length ≤ 8 ∧ ∀ c ∈ x.cps.toList, c ∈ ("abcdefghijklmnopqrstuvwxyz" : Str).cps.toList
def nameB (x : Str) : Bool := decide (1 ≤ x.length) && decide (x.length ≤ 8) && x.cps.toList.all fun c => decide (c ∈ ("abcdefghijklmnopqrstuvwxyz" : Str).cps.toList)
theorem nameB_ok {x : Str} (h : nameB x = true) : NameOk x := by
  unfold nameB at h
  rw [Bool.and_eq_true, Bool.and_eq_true, decide_eq_true_eq, decide_eq_true_eq, List.all_eq_true] at h
  exact ⟨h.1.1, h.1.2, fun c hc => of_decide_eq_true (h.2 c hc)⟩
theorem words_name : (wordsL ++ marksL).all nameB = true := by decide +kernel
theorem name_ok {x : Str} (h : x ∈ wordsL ∨ x ∈ marksL) : NameOk x := nameB_ok (List.all_eq_true.mp words_name x (List.mem_append.mpr h))
abbrev sis_name : Stmt := top 40
abbrev Nscis_name : List Str := ["_law_thing", "_law_sign"]
theorem scis_name : FnScope Nscis_name ["_law_thing"] (defScope sis_name) := ⟨rfl, rfl, rfl, by decide +kernel, rfl, by decide +kernel, by decide +kernel⟩
def spIsName : Sp := fun vs H Q _ => ∃ (x : Str), vs = [.str x] ∧ NameOk x ∧ ∀ H', Same H H' → Q (.bl true) H'
theorem ok_isName {f : Addr} {fd : FuncData} (F : Fun K "_law_is_name" "_law_is_name" sis_name f fd) (G : Gs K mg) : FnOk P w K mg base CX0 1 f fd ["_law_thing"] spIsName := by
  refine F.ok scis_name (fun vs H Q E h => ?_) (fun cdv A outer s H vs Q E hr h => ?_)
  · obtain ⟨x, rfl, _⟩ := h
    rfl
  obtain ⟨x, rfl, ⟨h1, h8, hc⟩, q⟩ := h
  refine ⟨_, (pss_cons (ps_if (PW.pt (pw_or (pt_not (pt_val (pe_callB call_isi (by rfl) G.isinstance boot_isinstance (pa_cons (pv 0) (pa_cons (pe_bltn (v := .ty "str") (by rfl) G.str boot_str rfl) pa_nil))))) (pw_or1 (pt_not (pt_chain op_le op_le pe_int (pe_callB call_len_str (by rfl) G.len PySem.boot_len (pa_cons (pv 0) pa_nil)) pe_int))))) (pss_one (ps_ret pe_bl)) pss_nil) (pss_one (ps_ret (pe_cmpR (op_eqD hr.units) (pe_lc (own := [("_law_sign", 1)]) rfl scis_name.nd (pi_str (pv 0)) (blkOk_by (N := Nscis_name) (sc := defScope sis_name) (by decide +kernel)) (fun _ _ _ _ _ => (pg_name (i := 1) scis_name.nd rfl (Or.inl rfl))) (fun _ _ _ _ _ => (pts_one (pt_cmpR op_notInS (pv 1) pe_str (by with_unfolding_all rfl)))) (fun _ _ _ _ _ => (pv 1))) (pe_lst pa_nil) (nomark _))))), ?_⟩
  refine ⟨_, rfl, .str x, .ty "str", _, _, true, rfl, .ty "str", .base (.str x), kit_ty (by decide +kernel), true, rfl, ?_⟩
  refine iteF (A := True) ?_
  refine ⟨_, rfl, x, rfl, line_big (by omega), ?_⟩
  refine ⟨_, _, rfl, rfl, true, congrArg V.bl (decide_eq_true (show (1 : Int) ≤ ((x.length : Nat) : Int) by omega)), iteT ?_⟩
  refine ⟨_, _, rfl, rfl, true, congrArg V.bl (decide_eq_true (show ((x.length : Nat) : Int) ≤ (8 : Int) by omega)), ?_⟩
  refine iteF (A := True) ?_
  refine ⟨_, rfl, x, rfl, fun D hD => ?_⟩
  refine lc_it walk_str (fun i H1 => Same H H1 ∧ H1 D = some (.lst [])) ⟨same_new hD, upd_same⟩ (fun _ _ _ _ => trivial) ?_ ?_
  · rintro i v H1 H' hi ⟨sm, hDi⟩ ⟨rfl, c, hcx, rfl⟩
    have hm : c ∈ x.cps.toList := List.mem_of_getElem? (by rw [Array.getElem?_toList]; exact hcx)
    exact ⟨rfl, _, rfl, c, _, rfl, rfl, false, congrArg V.bl (by rw [decide_eq_true (hc c hm)]; rfl), iteF ⟨sm, hDi⟩⟩
  · rintro H1 ⟨sm, hD1⟩
    refine ⟨by show 0 ≤ sizeLine; decide, fun e he => ?_⟩
    have s1 : Same H1 (upd H1 e (.lst [])) := same_new he
    refine ⟨.list [], .list [], .lst (SqL.of (s1 _ _ hD1)) .nil, .lst (SqL.of upd_same) .nil, shaped_nil, shaped_nil, ?_⟩
    rw [eqv_nil]
    exact q _ (sm.trans s1)

theorem tyT {H : Hp} {a : Addr} {xs : List V} (h : SqT K H a xs) : TyX K H (.ref a) (.type "tuple") := by
  rcases h with (h | ⟨o, h⟩) | ⟨o, its, n, h1, h2, _⟩
  · exact .base (.tup h)
  · exact .fTuple h
  · exact .kTuple h1 h2
abbrev sis_leaf : Stmt := top 41
abbrev Nscis_leaf : List Str := ["_law_thing"]
theorem scis_leaf : FnScope Nscis_leaf ["_law_thing"] (defScope sis_leaf) := ⟨rfl, rfl, rfl, by decide +kernel, rfl, by decide +kernel, by decide +kernel⟩
def spIsLeaf (K : PySem.W.Frag) : Sp := fun vs H Q _ => ∃ (v : V) (l : Leaf), vs = [v] ∧ Dt K H v (leafD l) ∧ LeafOk l ∧ ∀ H', Same H H' → Q (.bl true) H'
theorem ok_isLeaf {f : Addr} {fd : FuncData} (F : Fun K "_law_is_leaf" "_law_is_leaf" sis_leaf f fd) (G : Gs K mg) (D_law_is_name : Def P w K mg base 1 "_law_is_name" ["_law_thing"] spIsName) : FnOk P w K mg base CX0 2 f fd ["_law_thing"] (spIsLeaf K) := by
  refine F.ok scis_leaf (fun vs H Q E h => ?_) (fun cdv A outer s H vs Q E hr h => ?_)
  · obtain ⟨v, l, rfl, _⟩ := h
    rfl
  obtain ⟨v, l, rfl, hL, hok, q⟩ := h
  refine ⟨_, (pss_cons (ps_if (PW.pt (pw_or (pt_not (pt_val (pe_callB call_isi (by rfl) G.isinstance boot_isinstance (pa_cons (pv 0) (pa_cons (pe_bltn (v := .ty "tuple") (by rfl) G.tuple boot_tuple rfl) pa_nil))))) (pw_or (pt_cmpR op_lt (pe_callB call_len_seq (by rfl) G.len PySem.boot_len (pa_cons (pv 0) pa_nil)) pe_int (nomark _)) (pw_or1 (pt_not (pt_val (pe_callB call_isi (by rfl) G.isinstance boot_isinstance (pa_cons (pe_ix ix_tup (pv 0) pe_int (fun _ _ => rfl)) (pa_cons (pe_bltn (v := .ty "str") (by rfl) G.str boot_str rfl) pa_nil))))))))) (pss_one (ps_ret pe_bl)) pss_nil) (pss_cons (ps_if (pt_cmpR op_eq (pe_ix ix_tup (pv 0) pe_int (fun _ _ => rfl)) pe_str (nomark _)) (pss_one (ps_ret (pe_cmpR op_eq (pe_callB call_len_seq (by rfl) G.len PySem.boot_len (pa_cons (pv 0) pa_nil)) pe_int (nomark _)))) pss_nil) (pss_cons (ps_if (pt_cmpR op_eq (pe_ix ix_tup (pv 0) pe_int (fun _ _ => rfl)) pe_str (nomark _)) (pss_cons (ps_if (PW.pt (pw_or (pt_cmpR op_ne (pe_callB call_len_seq (by rfl) G.len PySem.boot_len (pa_cons (pv 0) pa_nil)) pe_int (nomark _)) (pw_or1 (pt_cmpR op_notIn_seq (pe_ix ix_tup (pv 0) pe_int (fun _ _ => rfl)) (pe_tup (pa_cons pe_str (pa_cons pe_str pa_nil))) (by with_unfolding_all rfl))))) (pss_one (ps_ret pe_bl)) pss_nil) (pss_one (ps_ret (pe_or (pe_cmpR op_eq (pe_ix ix_tup (pv 0) pe_int (fun _ _ => rfl)) pe_str (nomark _)) (pe_one (pe_def D_law_is_name (hr.mono (by omega)) rfl (pa_cons (pe_ix ix_tup (pv 0) pe_int (fun _ _ => rfl)) pa_nil))))))) pss_nil) (pss_one (ps_ret (pe_and (pe_cmpR op_in_seq (pe_ix ix_tup (pv 0) pe_int (fun _ _ => rfl)) (pe_tup (pa_cons pe_str (pa_cons pe_str pa_nil))) (by with_unfolding_all rfl)) (pe_and (pe_cmpR op_eq (pe_callB call_len_seq (by rfl) G.len PySem.boot_len (pa_cons (pv 0) pa_nil)) pe_int (nomark _)) (pe_one (pe_def D_law_is_name (hr.mono (by omega)) rfl (pa_cons (pe_ix ix_tup (pv 0) pe_int (fun _ _ => rfl)) pa_nil)))))))))), ?_⟩
  obtain ⟨a, rfl, hT⟩ := leafI hL
  have h0 : ∃ z r, leafV l = .str z :: r := by
    cases l <;> exact ⟨_, _, rfl⟩
  obtain ⟨z0, r0, e0⟩ := h0
  have hT0 : SqT K H a (.str z0 :: r0) := by rw [← e0]; exact hT
  refine ⟨_, rfl, .ref a, .ty "tuple", _, _, true, rfl, .ty "tuple", tyT hT, kit_ty (by decide +kernel), true, rfl, ?_⟩
  refine iteF (A := True) ?_
  refine ⟨_, rfl, a, _, rfl, .inr hT0, _, _, rfl, rfl, false, congrArg V.bl (decide_eq_false (by rw [List.length_cons]; omega)), ?_⟩
  refine iteF (A := True) ?_
  refine ⟨_, rfl, a, _, 0, _, rfl, rfl, hT0, at0, .str z0, .ty "str", _, _, true, rfl, .ty "str", .base (.str z0), kit_ty (by decide +kernel), true, rfl, ?_⟩
  refine iteF (A := True) ?_
  rcases l with _ | ⟨s', w'⟩ | m' | m'
  · -- stay
    refine ⟨_, rfl, a, _, 0, _, rfl, rfl, hT, at0, rfl, _, rfl, ite_t (by decide +kernel) ?_⟩
    refine ⟨_, rfl, a, _, rfl, .inr hT, rfl, ?_⟩
    exact q H (Same.refl H)
  · -- step
    refine ⟨_, rfl, a, _, 0, _, rfl, rfl, hT, at0, rfl, _, rfl, ite_f (by decide +kernel) ?_⟩
    refine ⟨_, rfl, a, _, 0, _, rfl, rfl, hT, at0, rfl, _, rfl, ite_t (by decide +kernel) ?_⟩
    refine ⟨_, rfl, a, _, rfl, .inr hT, rfl, false, congrArg V.bl (by show (!decide (V.int 3 = V.int 3)) = false; decide +kernel), ?_⟩
    refine iteF (A := True) ?_
    refine ⟨_, rfl, a, _, 1, _, rfl, rfl, hT, at1, by show 2 ≤ sizeLine; decide, fun b hb => ?_⟩
    have s1 : Same H (upd H b (.tup [.str "on", .str "back"])) := same_new hb
    have hin : inV (.str s') [V.str "on", V.str "back"] = true := by
      rw [show ([V.str "on", V.str "back"] : List V) = sidesL.map V.str from rfl, inV_strs, List.any_eq_true]
      exact ⟨s', hok.1, beq_self_eq_true _⟩
    refine ⟨b, _, rfl, .inr (SqT.of upd_same), rfl, rfl, false, ?_, ?_⟩
    · rw [if_pos rfl, hin]
      rfl
    refine iteF (A := True) ?_
    refine ⟨_, rfl, a, _, 2, _, rfl, rfl, same_seqT s1 hT, at2, rfl, decide (V.str w' = V.str "*"), rfl, ?_⟩
    refine ite_b (fun _ => q _ s1) (fun c => ?_)
    have hw : w' ∈ wordsL := by
      have h1 : w' ∈ wordsW := hok.2
      have h2 : w' ≠ "*" := fun e => by rw [e] at c; exact absurd c (by decide +kernel)
      have h3 : wordsW = wordsL ++ ([("*" : Str)] : List Str) := rfl
      rw [h3] at h1
      rcases List.mem_append.mp h1 with h | h
      · exact h
      · exact absurd (List.mem_singleton.mp h) h2
    refine ⟨_, rfl, a, _, 2, _, rfl, rfl, same_seqT s1 hT, at2, w', rfl, name_ok (.inl hw), fun H' s2 => q H' (s1.trans s2)⟩
  · -- at
    refine ⟨_, rfl, a, _, 0, _, rfl, rfl, hT, at0, rfl, _, rfl, ite_f (by decide +kernel) ?_⟩
    refine ⟨_, rfl, a, _, 0, _, rfl, rfl, hT, at0, rfl, _, rfl, ite_f (by decide +kernel) ?_⟩
    refine ⟨_, rfl, a, _, 0, _, rfl, rfl, hT, at0, by show 2 ≤ sizeLine; decide, fun b hb => ?_⟩
    have s1 : Same H (upd H b (.tup [.str "at", .str "off"])) := same_new hb
    refine ⟨b, _, rfl, .inr (SqT.of upd_same), rfl, rfl, true, ?_, iteT ?_⟩
    · rw [if_neg Bool.false_ne_true]
      exact congrArg V.bl (by decide +kernel)
    refine ⟨_, rfl, a, _, rfl, .inr (same_seqT s1 hT), rfl, true, congrArg V.bl (by show decide (V.int 2 = V.int 2) = true; decide +kernel), iteT ?_⟩
    exact ⟨_, rfl, a, _, 1, _, rfl, rfl, same_seqT s1 hT, at1, m', rfl, name_ok (.inr hok), fun H' s2 => q H' (s1.trans s2)⟩
  · -- off
    refine ⟨_, rfl, a, _, 0, _, rfl, rfl, hT, at0, rfl, _, rfl, ite_f (by decide +kernel) ?_⟩
    refine ⟨_, rfl, a, _, 0, _, rfl, rfl, hT, at0, rfl, _, rfl, ite_f (by decide +kernel) ?_⟩
    refine ⟨_, rfl, a, _, 0, _, rfl, rfl, hT, at0, by show 2 ≤ sizeLine; decide, fun b hb => ?_⟩
    have s1 : Same H (upd H b (.tup [.str "at", .str "off"])) := same_new hb
    refine ⟨b, _, rfl, .inr (SqT.of upd_same), rfl, rfl, true, ?_, iteT ?_⟩
    · rw [if_neg Bool.false_ne_true]
      exact congrArg V.bl (by decide +kernel)
    refine ⟨_, rfl, a, _, rfl, .inr (same_seqT s1 hT), rfl, true, congrArg V.bl (by show decide (V.int 2 = V.int 2) = true; decide +kernel), iteT ?_⟩
    exact ⟨_, rfl, a, _, 1, _, rfl, rfl, same_seqT s1 hT, at1, m', rfl, name_ok (.inr hok), fun H' s2 => q H' (s1.trans s2)⟩
end
end PK
set_option Elab.async false
set_option linter.all false
set_option maxRecDepth 100000
set_option autoImplicit false
set_option maxHeartbeats 2000000
/-! Sets of moves: each put in once. -/
namespace PK
open PySem PySem.Spec PyProof.Rows L2
section
variable {P : Program} {w : World}
/-- what a search asks of a stored value: nothing is shown -/
def NoCls (P : Program) (w : World) (n : Nat) (s : Shared) (v : Value) : Prop := ∀ (A : Around) (E : Value → Shared → Prop) (Q : Bool → Shared → Prop), Q false s → wpAny (model P w) A (ofAClassStatement n v) Q E s
def HashBy (P : Program) (w : World) (n : Nat) (s : Shared) (v : Value) : Prop := ∀ (A : Around) (E : Value → Shared → Prop) (Q : Bool → Shared → Prop), (∀ b, Q b s) → wpAny (model P w) A (hashByValue n v) Q E s
theorem noCls_tup {n : Nat} {s : Shared} {a : Addr} {o : Obj} {vs : Array Value} {m : Nat} (ho : s.heap.get? a = some o) (hc : o.cls = .type "tuple") (hd : o.data = .seq vs m) (hv : ∀ v ∈ vs.toList, NoCls P w n s v) : NoCls P w (n + 1) s (.ref a) := fun A E Q q => by
  have hT : s.TypeIs (.ref a) "tuple" := ⟨o, ho, hc⟩
  unfold ofAClassStatement
  refine wpAny_bind (wpAny_typeOf hT ?_)
  dsimp only
  rw [if_pos (show (("tuple" : String) == "tuple") = true from rfl)]
  refine wpAny_bind (wpAny_pure ?_)
  simp only [Bool.not_true, Bool.false_eq_true, if_false]
  show wpAny _ _ (seqItems? (.ref a) >>= _) _ _ s
  refine wpAny_bind (wpAny_seqItems ho hd ?_)
  dsimp only
  refine wpAny_bind ?_
  rw [← Array.forIn_toList]
  refine wpAny_forIn_list _ (fun rest r s' => r.1 = none ∧ s' = s ∧ ∀ v ∈ rest, NoCls P w n s v) _ ?_ ?_ _ _ ⟨rfl, rfl, hv⟩
  · rintro v rest r s' ⟨hr, rfl, hall⟩
    refine wpAny_bind (hall v List.mem_cons_self _ _ _ ?_)
    simp only [Bool.false_eq_true, if_false]
    exact wpAny_pure ⟨rfl, rfl, fun u hu => hall u (List.mem_cons_of_mem _ hu)⟩
  · rintro ⟨r1, r2⟩ s' ⟨hr, rfl, _⟩
    cases hr
    exact wpAny_pure q
theorem hashBy_tup {n : Nat} {s : Shared} {a : Addr} {o : Obj} {vs : Array Value} {m : Nat} (ho : s.heap.get? a = some o) (hc : o.cls = .type "tuple") (hd : o.data = .seq vs m) (hv : ∀ v ∈ vs.toList, HashBy P w n s v) : HashBy P w (n + 1) s (.ref a) := fun A E Q q => by
  have hT : s.TypeIs (.ref a) "tuple" := ⟨o, ho, hc⟩
  unfold hashByValue
  refine wpAny_bind (wpAny_specialOf hT F.slot_tuple_hash.lookup ?_)
  show wpAny _ _ (seqItems? (.ref a) >>= _) _ _ s
  refine wpAny_bind (wpAny_seqItems ho hd ?_)
  refine wpAny_bind ?_
  show wpAny _ _ (forIn vs _ _) _ _ s
  rw [← Array.forIn_toList]
  refine wpAny_forIn_list _ (fun rest r s' => r.1 = none ∧ s' = s ∧ ∀ v ∈ rest, HashBy P w n s v) _ ?_ ?_ _ _ ⟨rfl, rfl, hv⟩
  · rintro v rest r s' ⟨hr, rfl, hall⟩
    refine wpAny_bind (hall v List.mem_cons_self _ _ _ fun b => ?_)
    cases b with
    | true =>
      simp only [Bool.not_true, Bool.false_eq_true, if_false]
      exact wpAny_pure ⟨rfl, rfl, fun u hu => hall u (List.mem_cons_of_mem _ hu)⟩
    | false =>
      simp only [Bool.not_false, if_true]
      exact wpAny_pure (wpAny_pure (q false))
  · rintro ⟨r1, r2⟩ s' ⟨hr, rfl, _⟩
    cases hr
    exact wpAny_pure (q true)
mutual
theorem noCls_key : ∀ (k : NestedKey) (v : Value) (n : Nat) (s : Shared), NestedIs s.heap k v → k.depth ≤ n → NoCls P w n s v
  | .none, _, n, s, x, _ => by cases x; exact fun A E Q q => by cases n <;> exact wpAny_pure q
  | .num i, _, n, s, x, _ => by cases x <;> exact fun A E Q q => by cases n <;> exact wpAny_pure q
  | .text y, _, n, s, x, _ => by cases x; exact fun A E Q q => by cases n <;> exact wpAny_pure q
  | .tup ks, _, n, s, x, hn => by
    cases x with
    | tup hg hc hd hk =>
      simp only [NestedKey.depth] at hn
      cases n with
      | zero => omega
      | succ n => exact noCls_tup hg hc hd (noCls_keys ks _ n s hk (by omega))
theorem noCls_keys : ∀ (ks : List NestedKey) (vs : List Value) (n : Nat) (s : Shared), NestedAll s.heap ks vs → NestedKey.depthAll ks ≤ n → ∀ v ∈ vs, NoCls P w n s v
  | [], _, n, s, x, _, v, hv => by cases x; cases hv
  | k :: ks, _, n, s, x, hn, v, hv => by
    cases x with
    | cons x1 x2 =>
      simp only [NestedKey.depthAll] at hn
      rcases List.mem_cons.mp hv with e | hv
      · rw [e]; exact noCls_key k _ n s x1 (by omega)
      · exact noCls_keys ks _ n s x2 (by omega) v hv
end
mutual
theorem hashBy_key : ∀ (k : NestedKey) (v : Value) (n : Nat) (s : Shared), NestedIs s.heap k v → k.depth ≤ n → HashBy P w n s v
  | .none, _, n, s, x, _ => by cases x; exact fun A E Q q => by cases n <;> exact wpAny_pure (q _)
  | .num i, _, n, s, x, _ => by cases x <;> exact fun A E Q q => by cases n <;> exact wpAny_pure (q _)
  | .text y, _, n, s, x, _ => by cases x; exact fun A E Q q => by cases n <;> exact wpAny_pure (q _)
  | .tup ks, _, n, s, x, hn => by
    cases x with
    | tup hg hc hd hk =>
      simp only [NestedKey.depth] at hn
      cases n with
      | zero => omega
      | succ n => exact hashBy_tup hg hc hd (hashBy_keys ks _ n s hk (by omega))
theorem hashBy_keys : ∀ (ks : List NestedKey) (vs : List Value) (n : Nat) (s : Shared), NestedAll s.heap ks vs → NestedKey.depthAll ks ≤ n → ∀ v ∈ vs, HashBy P w n s v
  | [], _, n, s, x, _, v, hv => by cases x; cases hv
  | k :: ks, _, n, s, x, hn, v, hv => by
    cases x with
    | cons x1 x2 =>
      simp only [NestedKey.depthAll] at hn
      rcases List.mem_cons.mp hv with e | hv
      · rw [e]; exact hashBy_key k _ n s x1 (by omega)
      · exact hashBy_keys ks _ n s x2 (by omega) v hv
end
end
end PK
set_option Elab.async false
set_option linter.all false
set_option maxRecDepth 100000
set_option autoImplicit false
set_option maxHeartbeats 2000000
/-! Sets of moves: the search for a move that isn't there, and its place. -/
namespace PK
open PySem PySem.Spec PyProof.Rows L2
def rowN (g : Mv → Int) (p : Addr × Mv) : Int × Value := (g p.2, .ref p.1)
/-- the set at a has the moves L, in the order of its table -/
structure SetN (w : World) (g : Mv → Int) (h : Heap) (a : Addr) (L : List (Addr × Mv)) (es : Array (Int × Value)) (ep : Nat) (t : SetTable) : Prop where
  ob : ∃ o, h.get? a = some o ∧ o.ExactSet ∧ o.data = .set es ep t
  rows : es.toList = L.map (rowN g)
  tab : TabOk t (L.map fun p => g p.2)
  nd : (L.map (·.2)).Nodup
  tup : ∀ p ∈ L, NestedIs h (mvK p.2) (.ref p.1)
  led : w.params.followText "set-order" = true ∨ t.led = true
  room : L.length * 5 < t.mask * 3
  few : L.length < 64
section
variable {P : Program} {w : World} {g : Mv → Int} {A : Around} {E : Value → Shared → Prop} {s : Shared} {a : Addr} {L : List (Addr × Mv)} {es : Array (Int × Value)} {ep : Nat} {t : SetTable}
theorem rows_size (h : es.toList = L.map (rowN g)) : es.size = L.length := by rw [← Array.length_toList, h, List.length_map]
theorem rows_at (h : es.toList = L.map (rowN g)) (i : Nat) : es[i]? = (L[i]?).map (rowN g) := by rw [← Array.getElem?_toList, h, List.getElem?_map]
theorem tab_fits {hs : List Int} (T : TabOk t hs) (he : es.size = hs.length) (hl : hs.length ≤ t.mask) : t.fits es.size = true := by
  have h1 := T.sz
  unfold SetTable.fits SetTable.fill
  rw [T.dm, Bool.and_eq_true, beq_iff_eq, decide_eq_true_eq]
  show t.place.size = es.size ∧ t.place.size + 0 ≤ t.mask
  omega
theorem SetN.fits (R : SetN w g s.heap a L es ep t) : t.fits es.size = true := by
  have := R.room
  exact tab_fits R.tab (by rw [rows_size R.rows, List.length_map]) (by rw [List.length_map]; omega)
/-- the way of a search, probe by probe -/
abbrev prb (m : Nat) (h : Int) (c : Nat) : SetTable.Probe := nth m (runAt m (SetTable.bits h % (m + 1)) (SetTable.bits h)) c
theorem prb_add (m : Nat) (h : Int) (c q : Nat) : nth m (prb m h c) q = prb m h (c + q) := (nth_add m c _ q).symm
theorem prb_dummy (m : Nat) (h : Int) : ∀ c, (prb m h c).dummy = none := by
  have key : ∀ (n : Nat) (p : SetTable.Probe), p.dummy = none → (nth m p n).dummy = none := by
    intro n
    induction n with
    | zero => exact fun p h => h
    | succ n ih =>
      intro p h
      refine ih (adv m p) ?_
      unfold adv
      split <;> exact h
  exact fun c => key c _ rfl
/-- a move that isn't in the set: the search ends at the first free slot of its way -/
theorem find_free (R : SetN w g s.heap a L es ep t) {x : Addr} {e : Mv} (hx : NestedIs s.heap (mvK e) (.ref x)) (hu : A.units + 8 < cLine) (hn : e ∉ L.map (·.2)) {K : Nat} (hKf : K < 10 * SetTable.turns t.mask)
    (hK : way t.mask (g e) K ∉ t.place.toList) (hKb : ∀ c, c < K → way t.mask (g e) c ∈ t.place.toList) {Q : SetFound → Shared → Prop} (hq : Q (.free (way t.mask (g e) K) false) s) :
    ∀ (f c : Nat) (stand : Option SetTable.Probe), stand.getD (t.probeStart (g e)) = prb t.mask (g e) c → c ≤ K → K - c < f → wpAny (model P w) A (setSearchFrom a (.ref x) (g e) true f stand) Q E s := by
  intro f
  induction f with
  | zero => intro c stand _ _ hf; exact absurd hf (Nat.not_lt_zero _)
  | succ f ih =>
    intro c stand hst hc hf
    obtain ⟨o, ho, hex, hd⟩ := R.ob
    rw [setSearchFrom_succ]
    refine wpAny_bind (wpAny_setState_of ho hd R.fits ?_)
    dsimp only
    refine wp_if_neg (by unfold SetTable.gaveWay; rw [mask_odd R.tab.mok]; decide) ?_
    try refine wpAny_bind (wpAny_pure ?_)
    have jw : ∀ q, (nth t.mask (prb t.mask (g e) c) q).j = way t.mask (g e) (c + q) := fun q => congrArg SetTable.Probe.j (prb_add t.mask (g e) c q)
    have spec := go_spec t R.tab.ris R.tab.dm (fun i => (es[i]?.map (·.1)).getD 0) (g e) (10 * SetTable.turns t.mask) (K - c) (prb t.mask (g e) c) (prb_dummy _ _ _) (by omega)
      (fun q hq => by rw [jw]; exact hKb (c + q) (by omega)) (by rw [jw, show c + (K - c) = K by omega]; exact hK)
    rcases spec with ⟨q, i, hq', hi, hh, _, hpr⟩ | ⟨_, hpr⟩
    · have hpr' : t.probe (fun i => (es[i]?.map (·.1)).getD 0) (g e) (stand.getD (t.probeStart (g e))) = some (.candidate (way t.mask (g e) (c + q)) i (prb t.mask (g e) (c + (q + 1)))) := by
        rw [hst, ← jw, ← prb_add]
        exact hpr
      rw [hpr']
      dsimp only
      rw [jw] at hi
      have hil : i < L.length := by
        have h1 : i < t.place.toList.length := (List.getElem?_eq_some_iff.mp hi).1
        have h2 := R.tab.sz
        rw [List.length_map] at h2
        rw [Array.length_toList] at h1
        omega
      have hp : L[i]? = some L[i] := List.getElem?_eq_getElem hil
      generalize L[i] = p at hp
      have hmem : p ∈ L := List.mem_of_getElem? hp
      have hen : es[i]? = some (rowN g p) := by rw [rows_at R.rows, hp]; rfl
      have hkk : ¬ mvK p.2 = mvK e := fun z => hn (List.mem_map.mpr ⟨p, hmem, mvK_inj z⟩)
      have rest : wpAny (model P w) A (searchRest a (.ref x) (g e) true f es t (way t.mask (g e) (c + q)) i (prb t.mask (g e) (c + (q + 1)))) Q E s := by
        unfold searchRest
        rw [hen]
        dsimp only
        refine wpAny_bind (wpAny_holding ((nestedKind P w).eqBool (x := mvK p.2) (y := mvK e) hu ⟨R.tup p hmem, mvK_depth _⟩ ⟨hx, mvK_depth _⟩ ?_))
        rw [decide_eq_false hkk]
        refine wpAny_bind (wpAny_setState_of ho hd R.fits ?_)
        dsimp only
        refine wp_if_neg (by decide) ?_
        try refine wpAny_bind (wpAny_pure ?_)
        rw [sameMem]
        dsimp only
        have hsl : t.slot (way t.mask (g e) (c + q)) = .live i := slot_live R.tab.ris hi
        simp only [if_true, hsl, hen]
        refine wpAny_bind (wpAny_isSame_ref_self (wpAny_bind (wpAny_pure ?_)))
        simp only [if_true]
        refine wp_if_neg (by decide) ?_
        exact ih (c + (q + 1)) _ rfl (by omega) (by omega)
      by_cases hl : t.led = true
      · refine wp_if_neg (by simp [hl]) ?_
        try refine wpAny_bind (wpAny_pure ?_)
        exact rest
      · refine wp_if_pos (by simp [hl]) ?_
        have seen : wpAny (model P w) A (searchCouldBeSeen (.ref x) ((es.filter (·.1 == g e)).toList.map (·.2))) (fun b s' => b = false ∧ s' = s) E s := by
          have hys : ∀ y ∈ (es.filter (·.1 == g e)).toList.map (·.2), ∃ p ∈ L, y = Value.ref p.1 := fun y hy => by
            obtain ⟨z, hz, rfl⟩ := List.mem_map.mp hy
            have hz1 : z ∈ es.toList := by
              have : z ∈ es ∧ z.1 = g e := by simpa using hz
              simpa using this.1
            rw [R.rows] at hz1
            obtain ⟨p, hp, rfl⟩ := List.mem_map.mp hz1
            exact ⟨p, hp, rfl⟩
          unfold searchCouldBeSeen
          refine wpAny_bind ?_
          refine wpAny_forIn_list _ (fun rest r s' => r.1 = none ∧ s' = s ∧ ∀ y ∈ rest, ∃ p ∈ L, y = Value.ref p.1) _ ?_ ?_ _ _ ⟨rfl, rfl, hys⟩
          · rintro v tl r s' ⟨hr, rfl, hall⟩
            obtain ⟨p, hp, rfl⟩ := hall v List.mem_cons_self
            have rest' : ∀ y ∈ tl, ∃ p ∈ L, y = Value.ref p.1 := fun u hu => hall u (List.mem_cons_of_mem _ hu)
            dsimp only
            by_cases hv : (x == p.1 || (carriedByValue (.ref x) && carriedByValue (.ref p.1))) = true
            · refine wp_if_pos hv ?_
              exact wpAny_pure ⟨rfl, rfl, rest'⟩
            · refine wp_if_neg hv ?_
              refine wpAny_bind (quiet_key (mvK e) _ 8 s' hx (mvK_depth _) _ _ _ ?_)
              simp only [Bool.not_true, Bool.false_eq_true, if_false]
              refine wpAny_bind (quiet_key (mvK p.2) _ 8 s' (R.tup p hp) (mvK_depth _) _ _ _ ?_)
              simp only [Bool.not_true, Bool.false_eq_true, if_false]
              refine wpAny_bind (noCls_key (mvK e) _ 8 s' hx (mvK_depth _) _ _ _ ?_)
              simp only [Bool.false_eq_true, if_false]
              refine wpAny_bind (noCls_key (mvK p.2) _ 8 s' (R.tup p hp) (mvK_depth _) _ _ _ ?_)
              simp only [Bool.false_eq_true, if_false]
              exact wpAny_pure ⟨rfl, rfl, rest'⟩
          · rintro ⟨r1, r2⟩ s' ⟨hr, rfl, _⟩
            cases hr
            exact wpAny_pure ⟨rfl, rfl⟩
        refine wpAny_bind (wpAny_mono seen (fun b s' q => ?_) fun _ _ h => h)
        obtain ⟨rfl, rfl⟩ := q
        refine wp_if_neg (by decide) ?_
        try refine wpAny_bind (wpAny_pure ?_)
        exact rest
    · have hpr' : t.probe (fun i => (es[i]?.map (·.1)).getD 0) (g e) (stand.getD (t.probeStart (g e))) = some (.empty (way t.mask (g e) K) none) := by
        have e2 : way t.mask (g e) K = (nth t.mask (prb t.mask (g e) c) (K - c)).j := by rw [jw, show c + (K - c) = K by omega]
        rw [hst, e2]
        exact hpr
      rw [hpr']
      dsimp only
      exact wpAny_pure hq
/-- as adding asks for it -/
theorem find_place (R : SetN w g s.heap a L es ep t) {x : Addr} {e : Mv} (hx : NestedIs s.heap (mvK e) (.ref x)) (hu : A.units + 8 < cLine) (hn : e ∉ L.map (·.2)) {Q : SetFound → Shared → Prop}
    (hq : ∀ K, way t.mask (g e) K ∉ t.place.toList → (∀ c, c < K → way t.mask (g e) c ∈ t.place.toList) → Q (.free (way t.mask (g e) K) false) s) : wpAny (model P w) A (setSearch a (.ref x) (g e) true) Q E s := by
  have hroom := R.room
  obtain ⟨K, hKf, hK, hKb⟩ := R.tab.first (by rw [List.length_map]; omega) (g e)
  have hbig : K < 100000 := by
    have : 10 * SetTable.turns t.mask ≤ 1420 := by
      unfold SetTable.turns
      rcases R.tab.mok with e | e | e <;> omega
    omega
  unfold setSearch
  exact find_free R hx hu hn hKf hK hKb (hq K hK hKb) 100000 0 none rfl (Nat.zero_le _) (by omega)
end
end PK
set_option Elab.async false
set_option linter.all false
set_option maxRecDepth 100000
set_option autoImplicit false
set_option maxHeartbeats 2000000
/-! Sets of moves: adding one that isn't there. -/
namespace PK
open PySem PySem.Spec PyProof.Rows L2
theorem fm_some {α β : Type} {f : α → Option β} {g : α → β} : ∀ l : List α, (∀ x ∈ l, f x = some (g x)) → l.filterMap f = l.map g
  | [], _ => rfl
  | x :: l, h => by rw [List.filterMap_cons_some (h x List.mem_cons_self), List.map_cons, fm_some l fun y hy => h y (List.mem_cons_of_mem _ hy)]
theorem pick_take {α : Type} (L : List α) : ∀ n, n ≤ L.length → (List.range n).filterMap (fun i => L[i]?) = L.take n
  | 0, _ => rfl
  | n + 1, h => by
    have e := List.getElem?_eq_getElem (show n < L.length from h)
    rw [List.range_succ, List.filterMap_append, pick_take L n (Nat.le_of_lt h), List.take_add_one, e, List.filterMap_cons_some e]
    rfl
theorem nested_same {h h' : Heap} {k : NestedKey} {v : Value} {a : Addr} {o : Obj} {es : Array (Int × Value)} {ep : Nat} {t : SetTable} (x : NestedIs h k v) (ho : h.get? a = some o) (hd : o.data = .set es ep t) (hs : Heap.SameBut a h h') : NestedIs h' k v :=
  NestedIs.at (fun b ob vs n hb hc => (hs.2 b (by rintro rfl; rw [ho] at hb; cases hb; rw [hd] at hc; cases hc)).trans hb) k _ x
section
variable {P : Program} {w : World} {g : Mv → Int} {A : Around} {E : Value → Shared → Prop} {s : Shared} {a : Addr} {L : List (Addr × Mv)} {es : Array (Int × Value)} {ep : Nat} {t : SetTable}
/-- the table laid anew, larger -/
theorem relay_new {o : Obj} (ho : s.heap.get? a = some o) (hex : o.ExactSet) (hd : o.data = .set es ep t) (hrows : es.toList = L.map (rowN g)) (T : TabOk t (L.map fun p => g p.2)) (hfl : L.length ≤ t.mask) (nd : (L.map (·.2)).Nodup)
    (tup : ∀ p ∈ L, NestedIs s.heap (mvK p.2) (.ref p.1)) (ld : w.params.followText "set-order" = true ∨ t.led = true) (few : L.length < 64) {wanted M : Nat} (hw : SetTable.sizeAbove wanted - 1 = M) (hM : MaskOk M) (hw2 : SetTable.sizeAbove wanted ≤ 128)
    (hn : L.length * 5 < M * 3) {Q : Unit → Shared → Prop} (hQ : ∀ h' L' es' ep' t', Heap.SameBut a s.heap h' → SetN w g h' a L' es' ep' t' → L'.Perm L → Q () { s with heap := h' }) : wpAny (model P w) A (setRelay a wanted) Q E s := by
  have hsl := rows_size hrows
  have hks : (es.map (·.1)).size = L.length := by rw [Array.size_map, hsl]
  obtain ⟨t', order, e, hp, T', em, el, _, ed⟩ := relaid_ok t (hs := es.map (·.1)) (wanted := wanted) hw hM (by rw [hks]; omega)
  rw [hks] at hp
  have hlt : ∀ i ∈ order.toList, i < L.length := fun i hi => List.mem_range.mp (hp.mem_iff.mp hi)
  obtain ⟨L2, hL2⟩ : ∃ L2, L2 = order.toList.filterMap (fun i => L[i]?) := ⟨_, rfl⟩
  have r1 : (order.filterMap (es[·]?)).toList = L2.map (rowN g) := by
    rw [Array.toList_filterMap, hL2, List.map_filterMap]
    exact congrArg (fun f => order.toList.filterMap f) (funext fun i => rows_at hrows i)
  have pm : L2.Perm L := by
    have h1 : L2.Perm ((List.range L.length).filterMap fun i => L[i]?) := by
      rw [hL2]
      exact hp.filterMap _
    rw [pick_take L _ (Nat.le_refl _), List.take_length] at h1
    exact h1
  have r3 : (L2.map fun p => g p.2) = order.toList.map fun i => (es.map (·.1)).getD i 0 := by
    rw [hL2, List.map_filterMap]
    refine fm_some _ fun i hi => ?_
    have h1 := List.getElem?_eq_getElem (hlt i hi)
    have h2 : (es.map (·.1))[i]? = some (g (L[i]'(hlt i hi)).2) := by
      rw [Array.getElem?_map, rows_at hrows, h1]
      rfl
    rw [h1, Array.getD_eq_getD_getElem?, h2]
    rfl
  rw [← r3] at T'
  have hs2 : (order.filterMap (es[·]?)).size = es.size := by rw [← Array.length_toList, r1, List.length_map, pm.length_eq, hsl]
  rw [setRelay_eq]
  refine wpAny_bind (wpAny_setState_of ho hd (tab_fits T (by rw [hsl, List.length_map]) (by rw [List.length_map]; exact hfl)) ?_)
  dsimp only
  refine wp_if_neg (by rw [sizeLine_eq]; omega) ?_
  try refine wpAny_bind (wpAny_pure ?_)
  rw [e]
  dsimp only
  refine wpAny_bind ?_
  refine wp_if_neg (by rw [hs2]; simp) ?_
  try refine wpAny_bind (wpAny_pure ?_)
  refine wpAny_pure ?_
  dsimp only
  refine wpAny_storeSet_of ho hd ?_ (by rw [hs2, hsl, sizeLine_eq]; omega)
  have sb : Heap.SameBut a s.heap (s.heap.update a (Obj.putSet (order.filterMap (es[·]?)) t')) := Heap.SameBut.update ..
  exact hQ _ L2 (order.filterMap (es[·]?)) (ep + 1) t' sb ⟨⟨_, store_at ho hd, ⟨hex.1, hex.2.1, hex.2.2⟩, rfl⟩, r1, T', (pm.map (·.2)).nodup_iff.mpr nd, fun p hp => nested_same (tup p (pm.mem_iff.mp hp)) ho hd sb, by rw [el]; exact ld,
    by rw [pm.length_eq, em]; exact hn, by rw [pm.length_eq]; exact few⟩ pm
theorem tab_plain {hs : List Int} (T : TabOk t hs) : TabOk { t with plain := false } hs := ⟨T.ris, T.dm, T.sz, T.mok, T.bd, T.reach⟩
/-- adding a move that isn't there -/
theorem add_new (R : SetN w g s.heap a L es ep t) {x : Addr} {e : Mv} (hx : NestedIs s.heap (mvK e) (.ref x)) (hu : A.units + 8 < cLine) (hn : e ∉ L.map (·.2)) (hfew : L.length + 1 < 64) {Q : Bool → Shared → Prop}
    (hQ : ∀ b h' L' es' ep' t', Heap.SameBut a s.heap h' → SetN w g h' a L' es' ep' t' → L'.Perm ((x, e) :: L) → Q b { s with heap := h' }) : wpAny (model P w) A (setAddHashed a (.ref x) (g e)) Q E s := by
  obtain ⟨o, ho, hex, hd⟩ := R.ob
  have hsl := rows_size R.rows
  have hroom := R.room
  unfold setAddHashed
  refine wpAny_holding ?_
  rw [show (100000 : Nat) = 99999 + 1 from rfl, setAddHashedIn_succ]
  refine wpAny_bind (wpAny_setState_of ho hd R.fits ?_)
  dsimp only
  refine wp_if_neg (by simp [byScan, Value.scannable]) ?_
  try refine wpAny_bind (wpAny_pure ?_)
  refine wpAny_bind (find_place R hx hu hn fun K hK hb => ?_)
  dsimp only
  refine wpAny_bind (wpAny_setState_of ho hd R.fits ?_)
  dsimp only
  obtain ⟨q1, q2, q3, q4, q5, q6, q7, q8, q9⟩ := R.tab.put hK hb
  rw [List.length_map] at q2 q9
  generalize t.put (way t.mask (g e) K) = pt at q1 q3 q4 q5 q6 q7 q8 q9 ⊢
  obtain ⟨t1, p⟩ := pt
  dsimp only at q1 q3 q4 q5 q6 q7 q8 q9 ⊢
  subst q1
  have hin : (SetTable.insertAt es (SetTable.below t.place (way t.mask (g e) K)) (g e, Value.ref x)).toList = (L.take (SetTable.below t.place (way t.mask (g e) K)) ++ (x, e) :: L.drop (SetTable.below t.place (way t.mask (g e) K))).map (rowN g) := by
    rw [SetTable.toList_insertAt, R.rows, List.map_append, List.map_cons, List.map_take, List.map_drop]
    rfl
  generalize SetTable.below t.place (way t.mask (g e) K) = p at q2 q3 hin ⊢
  have pm := put_perm L p (x, e)
  have hlen : (L.take p ++ (x, e) :: L.drop p).length = L.length + 1 := pm.length_eq
  have hhs : (L.take p ++ (x, e) :: L.drop p).map (fun p => g p.2) = (L.map fun p => g p.2).take p ++ g e :: (L.map fun p => g p.2).drop p := by
    rw [List.map_append, List.map_cons, List.map_take, List.map_drop]
  rw [← hhs] at q3
  have nd1 : ((L.take p ++ (x, e) :: L.drop p).map (·.2)).Nodup := by
    refine (pm.map (·.2)).nodup_iff.mpr ?_
    rw [List.map_cons]
    exact List.nodup_cons.mpr ⟨hn, R.nd⟩
  have hes := rows_size hin
  rw [hlen] at hes
  generalize SetTable.insertAt es p (g e, Value.ref x) = es1 at hin hes ⊢
  generalize L.take p ++ (x, e) :: L.drop p = L1 at pm hlen q3 nd1 hin
  -- behind the question whether the hash is by value
  have fin : ∀ t2 : SetTable, TabOk t2 (L1.map fun p => g p.2) → t2.mask = t.mask → t2.led = t.led → t2.fill = L.length + 1 →
      wpAny (model P w) A (do
        storeSet a es1 t2
        if !false && t2.tooFull then setRelay a (SetTable.grown (es.size + 1))
        return true) Q E s := by
    intro t2 q3 q4 q5 q9
    refine wpAny_bind (wpAny_storeSet_of ho hd ?_ (by rw [hes, sizeLine_eq]; omega))
    have sb : Heap.SameBut a s.heap (s.heap.update a (Obj.putSet es1 t2)) := Heap.SameBut.update ..
    have ho1 := store_at (es' := es1) (t' := t2) ho hd
    generalize s.heap.update a (Obj.putSet es1 t2) = h1 at sb ho1 ⊢
    have tup1 : ∀ p ∈ L1, NestedIs h1 (mvK p.2) (.ref p.1) := fun p hp => by
      rcases List.mem_cons.mp (pm.mem_iff.mp hp) with e | hp
      · rw [e]; exact nested_same hx ho hd sb
      · exact nested_same (R.tup p hp) ho hd sb
    have ld1 : w.params.followText "set-order" = true ∨ t2.led = true := by rw [q5]; exact R.led
    by_cases hf : t2.tooFull = true
    · first
        | (refine wpAny_bind ?_; refine wp_if_pos (by simp [hf]) ?_)
        | (refine wp_if_pos (by simp [hf]) ?_; refine wpAny_bind ?_)
      have hfull : (L.length + 1) * 5 ≥ t2.mask * 3 := by
        have h := hf
        unfold SetTable.tooFull at h
        rw [decide_eq_true_eq, q9] at h
        exact h
      rw [hsl]
      have cases2 : (t.mask = 7 ∧ L.length = 4) ∨ (t.mask = 31 ∧ L.length = 18) := by
        rw [q4] at hfull
        rcases R.tab.mok with e | e | e
        · left; rw [e] at hfull hroom; exact ⟨e, by omega⟩
        · right; rw [e] at hfull hroom; exact ⟨e, by omega⟩
        · exfalso; rw [e] at hfull; omega
      have go : ∀ M, SetTable.sizeAbove (SetTable.grown (L.length + 1)) - 1 = M → MaskOk M → SetTable.sizeAbove (SetTable.grown (L.length + 1)) ≤ 128 → (L.length + 1) * 5 < M * 3 →
          wpAny (model P w) A (setRelay a (SetTable.grown (L.length + 1))) (fun _ s' => wpAny (model P w) A (pure true) Q E s') E { s with heap := h1 } := fun M h1' h2' h3' h4' => by
        refine relay_new (s := { s with heap := h1 }) ho1 ⟨hex.1, hex.2.1, hex.2.2⟩ rfl hin q3 (by rw [hlen, q4]; rcases cases2 with ⟨e, e2⟩ | ⟨e, e2⟩ <;> omega) nd1 tup1 ld1 (by rw [hlen]; exact hfew) h1' h2' h3' (by rw [hlen]; exact h4') ?_
        intro h2 L2 es2 ep2 t2 sb2 R2 pm2
        exact wpAny_pure (hQ true h2 L2 es2 ep2 t2 (sb.trans sb2) R2 (pm2.trans pm))
      rcases cases2 with ⟨_, e2⟩ | ⟨_, e2⟩
      · exact go 31 (by rw [e2, size_20]) (.inr (.inl rfl)) (by rw [e2, size_20]; decide) (by omega)
      · exact go 127 (by rw [e2, size_76]) (.inr (.inr rfl)) (by rw [e2, size_76]; decide) (by omega)
    · first
        | refine wp_if_neg (by simp [hf]) ?_
        | (refine wpAny_bind ?_; refine wp_if_neg (by simp [hf]) ?_; refine wpAny_pure ?_)
      refine wpAny_pure (hQ true h1 L1 es1 (ep + 1) t2 sb ⟨⟨_, ho1, ⟨hex.1, hex.2.1, hex.2.2⟩, rfl⟩, hin, q3, nd1, tup1, ld1, ?_, by rw [hlen]; exact hfew⟩ pm)
      have h := hf
      unfold SetTable.tooFull at h
      rw [decide_eq_true_eq, q9] at h
      rw [hlen]
      omega
  cases hp1 : t1.plain with
  | true =>
    first
      | (refine wpAny_bind ?_; refine wp_if_pos rfl ?_; refine hashBy_key (mvK e) _ 8 s hx (mvK_depth _) _ _ _ fun b => ?_)
      | refine wp_if_pos rfl (wpAny_bind (hashBy_key (mvK e) _ 8 s hx (mvK_depth _) _ _ _ fun b => ?_))
    cases b with
    | true => exact fin t1 q3 q4 q5 q9
    | false => exact fin { t1 with plain := false } (tab_plain q3) q4 q5 q9
  | false =>
    first
      | (refine wpAny_bind ?_; refine wp_if_neg (by decide) ?_; refine wpAny_pure ?_)
      | (refine wp_if_neg (by decide) ?_; refine wpAny_bind (wpAny_pure ?_))
    exact fin t1 q3 q4 q5 q9
end
end PK
set_option Elab.async false
set_option linter.all false
set_option maxRecDepth 100000
set_option autoImplicit false
set_option maxHeartbeats 4000000
/-! set(t) and sorted(set) for tuples of moves, each once. -/
namespace PK
open PySem PySem.Spec PyProof.Rows L2
def mvH (w : World) (e : Mv) : Int := (mvK e).hash w
theorem perm_unmap {α β : Type} {f : α → β} : ∀ {out : List β} {l : List α}, out.Perm (l.map f) → ∃ l' : List α, l'.Perm l ∧ out = l'.map f
  | [], l, h => by
    have e : l.map f = [] := h.symm.eq_nil
    exact ⟨[], by rw [List.map_eq_nil_iff.mp e], rfl⟩
  | v :: out, l, h => by
    obtain ⟨x, hx, rfl⟩ := List.mem_map.mp (h.mem_iff.mp List.mem_cons_self)
    obtain ⟨l1, l2, rfl⟩ := List.append_of_mem hx
    have p1 : (l1 ++ x :: l2).Perm (x :: (l1 ++ l2)) := List.perm_middle
    have p2 : out.Perm ((l1 ++ l2).map f) := (h.trans (p1.map f)).cons_inv
    obtain ⟨l', q, rfl⟩ := perm_unmap p2
    exact ⟨x :: l', (q.cons x).trans p1.symm, rfl⟩
section
variable {P : Program} {w : World} {A : Around} {E : Value → Shared → Prop} {s : Shared}
theorem nested_keep {h h' : Heap} {k : NestedKey} {v : Value} (x : NestedIs h k v) (hk : ∀ b o, h.get? b = some o → h'.get? b = some o) : NestedIs h' k v := NestedIs.at (fun b o _ _ e _ => hk b o e) k _ x
theorem setN_fresh {h : Heap} {a : Addr} {g : Mv → Int} (ho : h.get? a = some { cls := .type "set", dict := none, data := .set #[] 0 (.fresh 0 0 (!w.params.followText "set-order")) }) : SetN w g h a [] #[] 0 (.fresh 0 0 (!w.params.followText "set-order")) where
  ob := ⟨_, ho, ⟨rfl, rfl, rfl⟩, rfl⟩
  rows := rfl
  tab := ⟨List.Pairwise.nil, rfl, rfl, .inl rfl, fun x hx => (by cases hx), fun i h j hi => (by simp at hi)⟩
  nd := List.nodup_nil
  tup := fun p hp => (by cases hp)
  led := by
    show _ ∨ (!w.params.followText "set-order") = true
    cases w.params.followText "set-order"
    · exact .inr rfl
    · exact .inl rfl
  room := by
    show 0 * 5 < 7 * 3
    decide
  few := by
    show 0 < 64
    decide
theorem SetN.at' {g : Mv → Int} {h h' : Heap} {a : Addr} {L : List (Addr × Mv)} {es : Array (Int × Value)} {ep : Nat} {t : SetTable} (R : SetN w g h a L es ep t) (ha : ∀ o, h.get? a = some o → h'.get? a = some o) (ht : ∀ p ∈ L, NestedIs h' (mvK p.2) (.ref p.1)) : SetN w g h' a L es ep t := by
  obtain ⟨o, ho, r⟩ := R.ob
  exact ⟨⟨o, ha o ho, r⟩, R.rows, R.tab, R.nd, ht, R.led, R.room, R.few⟩
/-- the loop of set(t): every item is new -/
theorem upd_loop {I : Addr} {fp wr : List Addr} {G : Array GenState → Array GenState → Prop} {n : Nat} {Pv : Nat → Value → Prop} {St : Nat → Shared → Prop} {R : Result → Shared → Prop}
    (W : WalksS P w A.in1 I fp wr G n Pv St) (S : Addr) (hSf : S ∉ fp) (ks : List (Addr × Mv)) (hn : n = ks.length) (hfew : ks.length < 64) (hnd : (ks.map (·.2)).Nodup) (hval : ∀ i v, Pv i v → ∃ p, ks[i]? = some p ∧ v = .ref p.1)
    (h0 : Heap) (hk : ∀ p ∈ ks, NestedIs h0 (mvK p.2) (.ref p.1)) (hS0 : h0.get? S = none) (hw0 : ∀ b ∈ wr, h0.get? b = none) (hu : A.in1.units + 8 < cLine) :
    ∀ (k i : Nat) (s : Shared), n - i = k → i ≤ n → St i s → (∀ b o, h0.get? b = some o → s.heap.get? b = some o) → (∃ L es ep t, SetN w (mvH w) s.heap S L es ep t ∧ L.Perm (ks.take i)) →
      (∀ s' L es ep t, Moved (S :: wr) G s s' → SetN w (mvH w) s'.heap S L es ep t → L.Perm ks → (∀ b o, h0.get? b = some o → s'.heap.get? b = some o) → R (.ok (.ret .none)) s') →
      codeAny (model P w) A (.builtin "set.update.loop" ⟨[.ref S, .ref I], []⟩) R s := by
  have hSw : S ∉ wr := fun h => hSf (W.sub _ h)
  have hsub : ∀ b ∈ wr, b ∈ S :: wr := fun b hb => List.mem_cons_of_mem _ hb
  have keepM : ∀ {s s' : Shared}, Moved wr G s s' → (∀ b o, h0.get? b = some o → s.heap.get? b = some o) → ∀ b o, h0.get? b = some o → s'.heap.get? b = some o := fun hm hkp b o e =>
    hm.heap b o (fun hb => by rw [hw0 b hb] at e; cases e) (hkp b o e)
  intro k
  induction k with
  | zero =>
    intro i s hk' hi hst hkp ⟨L, es, ep, t, hS, pm⟩ hR
    have hin : i = n := by omega
    subst hin
    refine codeAny_builtin F.entry_set_update_loop ?_
    rw [Around.under_plainId F.plain_set_update_loop _]
    show wpAny _ A.in1 (pyNext (.ref I) >>= _) _ _ s
    refine wpAny_bind (W.done s _ _ hst fun s' hm => ?_)
    show wpAny _ A.in1 (ret Value.none) _ _ s'
    have hkp' := keepM hm hkp
    rw [hn, List.take_length] at pm
    exact wpAny_pure (hR s' L es ep t (hm.mono hsub) (hS.at' (fun o e => hm.heap S o hSw e) fun p hp => nested_keep (hk p (pm.mem_iff.mp hp)) hkp') pm hkp')
  | succ k ih =>
    intro i s hk' hi hst hkp ⟨L, es, ep, t, hS, pm⟩ hR
    have hlt : i < n := by omega
    refine codeAny_builtin F.entry_set_update_loop ?_
    rw [Around.under_plainId F.plain_set_update_loop _]
    show wpAny _ A.in1 (pyNext (.ref I) >>= _) _ _ s
    refine wpAny_bind (W.item i s _ _ hlt hst fun v s' hP hst' hm => ?_)
    obtain ⟨p, hp, rfl⟩ := hval i v hP
    have hkp' := keepM hm hkp
    have hS' : SetN w (mvH w) s'.heap S L es ep t := hS.at' (fun o e => hm.heap S o hSw e) fun q hq => nested_keep (hk q (List.mem_of_mem_take (pm.mem_iff.mp hq))) hkp'
    have hx : NestedIs s'.heap (mvK p.2) (.ref p.1) := nested_keep (hk p (List.mem_of_getElem? hp)) hkp'
    have hlen : L.length ≤ i := by rw [pm.length_eq, List.length_take]; omega
    have hnew : p.2 ∉ L.map (·.2) := by
      rw [(pm.map (·.2)).mem_iff]
      intro hm
      obtain ⟨q, hq, e⟩ := List.mem_map.mp hm
      obtain ⟨j, hj, e2⟩ := List.getElem_of_mem hq
      rw [List.length_take] at hj
      rw [List.getElem_take] at e2
      have hi' : i < ks.length := (List.getElem?_eq_some_iff.mp hp).1
      have h1 := (List.getElem?_eq_some_iff.mp hp).2
      refine List.pairwise_iff_getElem.mp hnd j i (by rw [List.length_map]; omega) (by rw [List.length_map]; exact hi') (by omega) ?_
      rw [List.getElem_map, List.getElem_map, e2, h1]
      exact e
    show wpAny _ A.in1 (holding [Value.ref p.1] (setAdd S (.ref p.1)) >>= _) _ _ s'
    refine wpAny_bind (wpAny_holding ?_)
    unfold setAdd
    refine wpAny_holding ?_
    refine wpAny_bind ((nestedKind P w).pyHash (k := mvK p.2) hu ⟨hx, mvK_depth _⟩ ?_)
    show wpAny _ _ (setAddHashed S (.ref p.1) (mvH w p.2)) _ _ _
    refine add_new (s := { s' with toks := s'.toks + (nestedKind P w).draws (mvK p.2) }) hS' hx hu hnew (by omega) fun b h' L' es' ep' t' hsb hS2 pm2 => ?_
    have hkp2 : ∀ b o, h0.get? b = some o → h'.get? b = some o := fun b o e => (hsb.2 b (fun z => by rw [z, hS0] at e; cases e)).trans (hkp' b o e)
    have pm3 : L'.Perm (ks.take (i + 1)) := by
      rw [List.take_add_one, hp]
      refine pm2.trans ((pm.cons _).trans ?_)
      exact (List.perm_append_singleton p (ks.take i)).symm
    refine wpAny_pure ⟨plainId_quiet F.plain_set_update_loop _, ih (i + 1) _ (by omega) hlt (W.frame _ s' _ _ hst' (Nat.le_add_right _ _) fun b hb o e => ?_) hkp2 ⟨L', es', ep', t', hS2, pm3⟩ fun s'' L2 es2 ep2 t2 hm'' hS'' g'' hkp'' => ?_⟩
    · rw [hsb.2 b (fun h : b = S => hSf (by rw [← h]; exact hb))]; exact e
    · refine hR s'' L2 es2 ep2 t2 (Moved.trans W.gtrans ((hm.mono hsub).then_heap (Nat.le_add_right _ _) fun b o hb e => ?_) hm'') hS'' g'' hkp''
      rw [hsb.2 b (fun h : b = S => hb (by rw [h]; exact List.mem_cons_self))]; exact e
end
end PK
set_option Elab.async false
set_option linter.all false
set_option maxRecDepth 100000
set_option autoImplicit false
set_option maxHeartbeats 4000000
/-! set(t), sorted(set(t)): the rules. -/
namespace PK
open PySem PySem.Spec PyProof.Rows L2
section
variable {P : Program} {w : World} {A : Around} {E : Value → Shared → Prop} {s : Shared}
abbrev setO0 (w : World) : Obj := { cls := .type "set", dict := none, data := .set #[] 0 (.fresh 0 0 (!w.params.followText "set-order")) }
/-- set(t), t a tuple of moves, each once -/
theorem call_setN {l : Addr} {items : Array Value} (ks : List (Addr × Mv)) {Q : Value → Shared → Prop} (hh : A.handled = none) (hl : s.heap.IsTuple l items) (hit : items.toList = ks.map fun p => Value.ref p.1) (hk : ∀ p ∈ ks, NestedIs s.heap (mvK p.2) (.ref p.1))
    (hnd : (ks.map (·.2)).Nodup) (hfew : ks.length < 64) (hu : A.units + 32 < cLine)
    (h : ∀ (h' : Heap) (tk : Nat) L es ep t, SetN w (mvH w) h' s.heap.objs.size L es ep t → L.Perm ks → (∀ b o, s.heap.get? b = some o → h'.get? b = some o) → Q (.ref s.heap.objs.size) { s with heap := h', toks := tk }) :
    wpAny (model P w) A (call (.type "set") [.ref l]) Q E s := by
  have hisz : items.size = ks.length := by rw [← Array.length_toList, hit, List.length_map]
  obtain ⟨c, tl, hmro⟩ := F.called_set.mro
  have hmade := F.called_set.made
  have hsub := F.called_set.sub
  refine wpAny_call (codeAny_of_tree ?_)
  show wpAny _ _ (callAny (.type "set") _) _ _ _
  refine wpAny_pure ⟨Code.quiet_builtin _ (by decide +kernel), codeAny_builtin F.entry_type_call ?_⟩
  rw [Around.under_plain (weight_type_call_type "set" [.ref l] []) rfl]
  have h1 := F.called_set.notType
  have h2 := F.called_set.canCreate
  have hct := F.typeCall_set_1 (.ref l)
  repeat (any_goals (first | assumption | wp_step))
  refine codeAny_mono (code_set_led1 (.ref l) (E := E) (Q₁ := fun obj s₁ => obj = .ref s.heap.objs.size ∧ s₁ = { s with heap := s.heap.push (setO0 w) }) ⟨rfl, rfl⟩) fun r s₁ hr => ?_
  cases r with
  | error e => exact hr
  | ok fl =>
    cases fl with
    | ret obj =>
      obtain ⟨rfl, rfl⟩ := hr
      have hS : (s.heap.push (setO0 w)).get? s.heap.objs.size = some (setO0 w) := Heap.get?_push_size _ rfl
      have hT : Shared.TypeIs { s with heap := s.heap.push (setO0 w) } (.ref s.heap.objs.size) "set" := ⟨_, hS, rfl⟩
      have hli := F.called_set.init.lookup
      have hbi := F.called_set.init.bind (.ref s.heap.objs.size)
      repeat (any_goals (first | assumption | wp_step))
      refine codeAny_mono (codeAny_call_builtin (R := wants (fun r s₂ => r = .none ∧ ∃ h' tk L es ep t, s₂ = { s with heap := h', toks := tk } ∧ SetN w (mvH w) h' s.heap.objs.size L es ep t ∧ L.Perm ks ∧
          (∀ b o, s.heap.get? b = some o → h'.get? b = some o)) E) F.called_set.init.plain F.entry_set_init (check_set_init_1 hT ?_)) fun r₂ s₂ hr₂ => ?_
      · obtain ⟨⟨ocls, odict, odata, oslots⟩, hol, hcl, nl, hdl⟩ := hl
        simp only at hcl hdl
        subst hcl; subst hdl
        have hol' : (s.heap.push (setO0 w)).get? l = some { cls := .type "tuple", dict := odict, data := .seq items nl, slots := oslots } := Heap.get?_push_of_some _ hol
        have hsls := F.sub_tuple_set
        have hslf := F.sub_tuple_frozenset
        have hne : (Value.type "tuple" == Value.type "dict") = false := by decide
        have hl1 : (s.heap.push (setO0 w)).IsTuple l items := ⟨_, hol', rfl, nl, rfl⟩
        unfold Builtin.«set.__init__» noKeywords Builtin.Frozenset.updateFrom
        generalize hPI : pyIter = PI
        wp_walk
        subst hPI
        refine wpAny_pyIter_tuple hl1 ?_
        refine wpAny_bind (wpAny_runValue ?_)
        have hlS : l < s.heap.objs.size := Heap.lt_size hol
        have hh3 : A.in1.in1.in1.handled = none := by simp [hh]
        have hz : (s.heap.push (setO0 w)).objs.size = s.heap.objs.size + 1 := Heap.size_push ..
        have none_of : ∀ b, s.heap.objs.size ≤ b → s.heap.get? b = none := fun b hb => by
          cases q : s.heap.get? b with
          | none => rfl
          | some o => exact absurd (Nat.lt_of_lt_of_le (Heap.lt_size q) hb) (Nat.lt_irrefl _)
        have hval : ∀ (i : Nat) (v : Value), items[i]? = some v → ∃ p, ks[i]? = some p ∧ v = .ref p.1 := fun i v hv => by
          have q : items.toList[i]? = some v := by rw [Array.getElem?_toList]; exact hv
          rw [hit, List.getElem?_map] at q
          cases hq : ks[i]? with
          | none => rw [hq] at q; cases q
          | some p =>
            rw [hq] at q
            exact ⟨p, rfl, (Option.some.inj q).symm⟩
        refine upd_loop ((Walks.tuple hh3 _ l (by rw [hz]; exact Nat.ne_of_lt (Nat.lt_succ_of_lt hlS)) items).toS) s.heap.objs.size (by rw [hz]; simp only [List.mem_cons, List.not_mem_nil, or_false, not_or]; exact ⟨Nat.ne_of_lt (Nat.lt_succ_self _), Nat.ne_of_gt hlS⟩)
          ks hisz hfew hnd hval s.heap hk (none_of _ (Nat.le_refl _)) (fun b hb => none_of b (by rw [List.mem_singleton.mp hb, hz]; exact Nat.le_succ _)) (by show A.units + 1 + 1 + 1 + 8 < cLine; omega) (items.size - 0) 0 _ (by omega) (Nat.zero_le _)
          ⟨⟨_, Heap.get?_push_size _ rfl, rfl, rfl⟩, (hl1.push _)⟩ (fun b o e => Heap.get?_push_of_some _ (Heap.get?_push_of_some _ e)) ⟨[], #[], 0, _, setN_fresh (Heap.get?_push_of_some _ hS), by rw [List.take_zero]⟩ ?_
        intro s' L es ep t hm hS' pm hkp
        obtain ⟨h', g2, d', tk', os'⟩ := s'
        have eg : g2 = s.gens := hm.gens
        have ed : d' = s.drawn := hm.drawn
        have eo : os' = s.os := hm.os
        subst eg; subst ed; subst eo
        show wpAny _ _ _ _ _ _
        refine wpAny_pure ?_
        show wpAny _ _ (ret Value.none) _ _ _
        exact wpAny_pure ⟨rfl, h', tk', L, es, ep, t, rfl, hS', pm, hkp⟩
      · cases r₂ with
        | error e => exact hr₂
        | ok fl₂ =>
          cases fl₂ with
          | ret r =>
            obtain ⟨rfl, h', tk, L, es, ep, t, rfl, hS', g', hk'⟩ := hr₂
            repeat (any_goals (first | assumption | wp_step))
            exact h _ _ _ _ _ _ hS' g' hk'
          | _ => exact hr₂.elim
    | _ => exact hr.elim
end

/-! ### the set as a thing of the heap -/
def SMO (w : World) (a : Addr) (ks : List (Addr × Mv)) : HO := .ext fun h => ∃ o es ep t, h.get? a = some o ∧ o.ExactSet ∧ o.data = .set es ep t ∧ t.fits es.size = true ∧ es.size < scanBound ∧ Ris t.place.toList ∧
  (w.params.followText "set-order" = true ∨ t.led = true) ∧ (es.toList.map (·.2)).Perm (ks.map fun p => Value.ref p.1)
/-- a tuple of moves, item by item -/
theorem mv_items {K : PySem.W.Frag} {H : Hp} : ∀ {ms : List Mv} {vs : List V}, DtAll K H vs (ms.map mvD) → ∃ ks : List (Addr × Mv), vs = ks.map (fun p => V.ref p.1) ∧ ks.map (·.2) = ms ∧ ∀ p ∈ ks, Dt K H (.ref p.1) (mvD p.2)
  | [], _, h => by
    have h' : DtAll K H _ [] := h
    cases h'
    exact ⟨[], rfl, rfl, fun p hp => by cases hp⟩
  | m :: ms, _, h => by
    obtain ⟨v, r, rfl, h1, h2⟩ := DtAll.consI (show DtAll K H _ (mvD m :: ms.map mvD) from h)
    obtain ⟨ks, rfl, rfl, q⟩ := mv_items h2
    obtain ⟨a, u, rfl, _⟩ := mvI h1
    refine ⟨(a, m) :: ks, rfl, rfl, fun p hp => ?_⟩
    rcases List.mem_cons.mp hp with e | hp
    · rw [e]; exact h1
    · exact q p hp
theorem vals_refsN : ∀ {ks : List (Addr × Mv)} {us : List Value}, Vals (ks.map fun p => V.ref p.1) us → us = ks.map fun p => Value.ref p.1
  | [], _, .nil => rfl
  | p :: ks, _, .cons r t => by
    cases r
    rw [vals_refsN t]
    rfl
section
variable {X : Cx}
def rSetN2 (w : World) (K : PySem.W.Frag) : List V → Hp → VK → Prop := fun xs H Q => ∃ (l : Addr) (vs : List V) (ms : List Mv), xs = [V.ref l] ∧ SqT K H l vs ∧ DtAll K H vs (ms.map mvD) ∧ ms.Nodup ∧ ms.length < 64 ∧
  ∀ (a : Addr) (ks : List (Addr × Mv)), H a = none → ks.map (·.2) = ms → (∀ p ∈ ks, Dt K H (.ref p.1) (mvD p.2)) → Q (.ref a) (upd H a (SMO w a ks))
theorem cr_setN (hc : X.calm = true) (hu : X.A.units + 64 < cLine) : CallR X (.type "set") (rSetN2 X.w X.K) := by
  intro pins s σ H xs us Q I r h
  obtain ⟨l, vs, ms, rfl, hl, hd, hnd, hf, q⟩ := h
  obtain ⟨u, rfl, rx⟩ := r.one
  cases rx
  obtain ⟨its, rv, pl, hz⟩ := I.tuple hl
  obtain ⟨ks, rfl, rfl, hk⟩ := mv_items hd
  refine call_setN (P := X.prog) (w := X.w) ks (I.ok.hd hc) (show s.heap.IsTuple l its.toArray from pl) (vals_refsN rv) (fun p hp => Dt.nested I _ _ _ (hk p hp) rfl) hnd (by rw [List.length_map] at hf; exact hf) (by omega) fun h' tk L es ep t R pm k => ?_
  obtain ⟨o, ho, hex, hd'⟩ := R.ob
  have hsz := rows_size R.rows
  have hfew := R.few
  have pmv : (es.toList.map (·.2)).Perm (ks.map fun p => Value.ref p.1) := by
    rw [R.rows, List.map_map]
    exact pm.map fun p => Value.ref p.1
  have new : ObjOk X.prog X.w (upd H s.heap.objs.size (SMO X.w s.heap.objs.size ks)) h' s.heap.objs.size (SMO X.w s.heap.objs.size ks) :=
    ⟨⟨o, es, ep, t, ho, hex, hd', SetN.fits (s := { s with heap := h' }) R, by unfold scanBound; omega, R.tab.ris, R.led, pmv⟩, ⟨o, ho⟩, fun _ _ ⟨o, es, ep, t, q1, q2⟩ k => ⟨o, es, ep, t, k _ q1, q2⟩⟩
  exact ⟨.ref s.heap.objs.size, _, I.laid (t' := tk) k (Nat.le_refl _) new, rfl, q _ ks (I.hok.fresh (Nat.le_refl _)) rfl hk⟩
/-- sorted(the set) -/
def rSortSN (w : World) (K : PySem.W.Frag) : List V → Hp → VK → Prop := fun xs H Q => ∃ (a : Addr) (ks : List (Addr × Mv)), xs = [V.ref a] ∧ H a = some (SMO w a ks) ∧ (∀ p ∈ ks, Dt K H (.ref p.1) (mvD p.2)) ∧ ks.length ≤ 1000 ∧
  ∀ (p : Addr) (ys : List V) (ms : List Mv), H p = none → ms.Perm (ks.map (·.2)) → DtAll K H ys ((srt mvD ms).map mvD) → Q (.ref p) (upd H p (.lst ys))
theorem cr_sortSN (hc : X.calm = true) (hu : X.A.units + 64 < cLine) : CallR X (.builtin "sorted") (rSortSN X.w X.K) := by
  intro pins s σ H xs us Q I r h
  obtain ⟨a, ks, rfl, ha, hk, hl, q⟩ := h
  obtain ⟨u, rfl, rx⟩ := r.one
  cases rx
  obtain ⟨⟨o, es, ep, t, ho, hex, hd, hf, hsz, ris, led, pm⟩, _⟩ := I.hok a _ ha
  refine Calls.call_function_entry PyProof.Rows.kind_sorted PyProof.Rows.plain_sorted PyProof.Rows.entry_sorted (PyProof.Rows.args_sorted1 _) ?_
  unfold Builtin.«sorted»
  refine wpAny_bind (m := checkCount "sorted" 1 1 _) (wpAny_pure ?_)
  refine wpAny_bind (collect_set (A := X.A.in1) (I.ok.hd hc) ⟨o, ho, hex.1, hd⟩ hf hsz ris led fun s1 vs k1 hz g1 o1 pv => ?_)
  obtain ⟨ks', pk, rfl⟩ := perm_unmap (pv.trans pm)
  have hks : (ks'.map fun p => Value.ref p.1).length ≤ 1000 := by rw [List.length_map, pk.length_eq]; exact hl
  have hdt : DtAll X.K H ((ks'.map (·.1)).map V.ref) ((ks'.map (·.2)).map mvD) := by
    refine DtAll.of (by simp) fun i v b hv hb => ?_
    rw [List.getElem?_map, List.getElem?_map] at hv hb
    cases hx : ks'[i]? with
    | none => rw [hx] at hv; cases hv
    | some x =>
      rw [hx] at hv hb
      cases hv
      cases hb
      exact hk x (pk.mem_iff.mp (List.mem_of_getElem? hx))
  have rv : Vals ((ks'.map (·.1)).map V.ref) (ks'.map fun p => Value.ref p.1) := by
    rw [show (ks'.map fun x => Value.ref x.1) = (ks'.map (·.1)).map Value.ref by rw [List.map_map]; rfl]
    exact vals_refs _
  have e := each_vals rv hdt
  generalize (ks'.map fun p => Value.ref p.1) = vs at hks e
  refine wpAny_bind (wpAny_newList ?_ (line_big (by omega)))
  have hoL : (s1.heap.push (seqObj "list" vs.toArray 0)).get? s1.heap.objs.size = some (seqObj "list" vs.toArray 0) := Heap.get?_push_size _ rfl
  refine wpAny_bind (wpAny_holding (PySem.W.list_sort_data (s := { s1 with heap := s1.heap.push (seqObj "list" vs.toArray 0) }) (R := fun u b => ∃ v, RelV v u ∧ Dt X.K H v (mvD b)) (enc := mvD) (bs := ks'.map (·.2)) hoL e
    (e.mono fun u b ⟨v, r, h⟩ => ⟨[], PyProof.Rows.Reads.keeps (fun _ _ q => Heap.get?_push_of_some _ (k1 _ _ q)) (Dt.reads0 I _ _ _ h r), List.not_mem_nil⟩) (PySem.W.AllAlike.of mvOrd.al) (PySem.W.Sortable.tuples mvOrd.tp) (by rw [List.length_map, pk.length_eq]; exact line_big (by omega))
    (fun b _ => by have := mvOrd.dp b; show X.A.units + 1 + 1 + _ < cLine; omega) fun out ho' eo => ?_))
  obtain ⟨ys, r1, r2⟩ := vals_each eo
  obtain ⟨c, hcc⟩ := PyProof.Rows.sortedHeap_at (vs := vs) (out := out.toArray) hoL
  have hlen : ys.length ≤ sizeLine := by
    rw [r1.length, ho', List.length_map, pk.length_eq]
    exact line_big (by omega)
  have hn : H s1.heap.objs.size = none := I.hok.fresh hz
  have kk : ∀ b u, s.heap.get? b = some u → (PyProof.Rows.sortedHeap (s1.heap.push (seqObj "list" vs.toArray 0)) s1.heap.objs.size vs out.toArray).get? b = some u := fun b u e => by
    have q := k1 b u e
    have hlt := Heap.lt_size q
    rw [PyProof.Rows.sortedHeap_old (Nat.ne_of_lt hlt) (by rw [size_push']; exact Nat.lt_succ_of_lt hlt)]
    exact Heap.get?_push_of_some _ q
  have J : Inv X pins σ (upd H s1.heap.objs.size (.lst ys)) { s with heap := PyProof.Rows.sortedHeap (s1.heap.push (seqObj "list" vs.toArray 0)) s1.heap.objs.size vs out.toArray, gens := s1.gens, drawn := s1.drawn, toks := s1.toks } :=
    I.call (ch := []) (Un.laid kk hz hn) (I.hok.laid kk hz ⟨hlen, out, c, r1, hcc⟩) (by rw [g1]; exact I.bare) (fun _ z => nomatch z)
  refine wpAny_pure ⟨_, rfl, ?_⟩
  obtain ⟨h1, g2, d2, t2, os2⟩ := s1
  obtain ⟨h0, g0, d0, t0, os0⟩ := s
  cases o1
  exact ⟨.ref h1.objs.size, _, J, rfl, q _ ys _ hn (pk.map (·.2)) r2⟩
/-- set(t), t a tuple of ints -/
def rSetI2 (w : World) (K : PySem.W.Frag) : List V → Hp → VK → Prop := fun xs H Q => ∃ (l : Addr) (ns : List Int), xs = [V.ref l] ∧ SqT K H l (ns.map V.int) ∧ ns.length ≤ 60 ∧ ∀ (a : Addr) (c : Nat), H a = none → c ≤ ns.length → Q (.ref a) (upd H a (SetO w a (fun j => decide (j ∈ ns)) c))
theorem cr_setI2 (hc : X.calm = true) : CallR X (.type "set") (rSetI2 X.w X.K) := by
  intro pins s σ H xs us Q I r h
  obtain ⟨l, ns, rfl, hl, hf, q⟩ := h
  obtain ⟨u, rfl, rx⟩ := r.one
  cases rx
  obtain ⟨its, rv, pl, hz⟩ := I.tuple hl
  refine call_set_tupI ns (I.ok.hd hc) (show s.heap.IsTuple l its.toArray from pl) (ints_of_vals rv) (by unfold scanBound; omega) fun h' tk c R1 hcn k => ?_
  exact ⟨.ref s.heap.objs.size, _, I.laid (t' := tk) k (Nat.le_refl _) (setO_new R1), rfl, q _ c (I.hok.fresh (Nat.le_refl _)) hcn⟩
end
end PK
set_option Elab.async false
set_option linter.all false
set_option maxRecDepth 100000
set_option autoImplicit false
/-! Sorted moves are one list. -/
namespace PK
open PySem PySem.Spec PyProof.Rows L2
theorem str_inj {x y : Str} (h : x.cps.toList = y.cps.toList) : x = y := by
  obtain ⟨a⟩ := x
  obtain ⟨b⟩ := y
  exact congrArg Str.mk (Array.toList_inj.mp h)
theorem toks_leaf {l m : Leaf} {r s : List (Int ⊕ List Nat)} (h : PySem.W.keyToks (leafD l) ++ r = PySem.W.keyToks (leafD m) ++ s) : l = m ∧ r = s := by
  cases l <;> cases m <;> simp only [leafD, PySem.W.keyToks, PySem.W.keyToksAll, List.cons_append, List.nil_append, List.append_assoc, List.cons.injEq, Sum.inl.injEq, Sum.inr.injEq, true_and] at h
  · exact ⟨rfl, h⟩
  · exact absurd h.1 (by decide +kernel)
  · exact absurd h.1 (by decide +kernel)
  · exact absurd h.1 (by decide +kernel)
  · exact absurd h.1 (by decide +kernel)
  · exact ⟨by rw [str_inj h.1, str_inj h.2.1], h.2.2⟩
  · exact absurd h.1 (by decide +kernel)
  · exact absurd h.1 (by decide +kernel)
  · exact absurd h.1 (by decide +kernel)
  · exact absurd h.1 (by decide +kernel)
  · exact ⟨by rw [str_inj h.1], h.2⟩
  · exact absurd h.1 (by decide +kernel)
  · exact absurd h.1 (by decide +kernel)
  · exact absurd h.1 (by decide +kernel)
  · exact absurd h.1 (by decide +kernel)
  · exact ⟨by rw [str_inj h.1], h.2⟩
theorem toks_mv {a b : Mv} (h : PySem.W.keyToks (mvD a) = PySem.W.keyToks (mvD b)) : a = b := by
  obtain ⟨i, l, j⟩ := a
  obtain ⟨i', l', j'⟩ := b
  simp only [mvD, PySem.W.keyToks, PySem.W.keyToksAll, List.cons_append, List.nil_append, List.cons.injEq, Sum.inl.injEq, true_and] at h
  obtain ⟨h1, h2⟩ := h
  obtain ⟨e2, h3⟩ := toks_leaf h2
  simp only [List.cons.injEq, Sum.inl.injEq, true_and, and_true] at h3
  have e1 : i = i' := by omega
  have e3 : j = j' := by omega
  rw [e1, e2, e3]
theorem srt_one {ms ns : List Mv} (h : ms.Perm ns) : srt mvD ms = srt mvD ns := by
  have T : PySem.W.TotalLe (PySem.W.dataLe false mvD) := PySem.W.sortLe_total _ _ _
  refine List.Perm.eq_of_pairwise (le := fun a b => PySem.W.dataLe false mvD a b = true) (fun a b _ _ h1 h2 => ?_) (PySem.W.sort_pairwise T ms) (PySem.W.sort_pairwise T ns) (((List.mergeSort_perm _ _).trans h).trans (List.mergeSort_perm _ _).symm)
  have q1 : (!(PyProof.Rows.listOrd PyProof.Rows.itemOrd).blt (PySem.W.keyToks (mvD b)) (PySem.W.keyToks (mvD a))) = true := h1
  have q2 : (!(PyProof.Rows.listOrd PyProof.Rows.itemOrd).blt (PySem.W.keyToks (mvD a)) (PySem.W.keyToks (mvD b))) = true := h2
  rw [Bool.not_eq_true'] at q1 q2
  exact toks_mv ((PyProof.Rows.listOrd PyProof.Rows.itemOrd).total _ _ q2 q1)
theorem srt_mvs {p : Pt} {ms : List Mv} (h : ms.Perm (mvsOf p)) : srt mvD ms = mvsOf p := srt_one (h.trans (List.mergeSort_perm _ _))
/-- what a machine's data can be compared by -/
theorem mv_lay {e : Mv} (h : LeafOk e.2.1) : (mvD e).canLay0 = true := by
  simp only [mvD, PyData.canLay0, PyData.canLayAll0, leaf_lay h, Bool.and_true]
theorem mv_depth (e : Mv) : (mvD e).depth = 2 := by
  simp only [mvD, PyData.depth, PyData.depthAll, leaf_depth]
  rfl
theorem mvs_lay : ∀ {ms : List Mv}, (∀ e ∈ ms, LeafOk e.2.1) → PyData.canLayAll0 (ms.map mvD) = true
  | [], _ => rfl
  | e :: ms, h => by
    rw [List.map_cons, PyData.canLayAll0, mv_lay (h e List.mem_cons_self), mvs_lay fun f hf => h f (List.mem_cons_of_mem _ hf)]
    rfl
theorem mvs_depth : ∀ ms : List Mv, PyData.depthAll (ms.map mvD) ≤ 2
  | [] => by decide
  | e :: ms => by
    have h1 := mv_depth e
    have h2 := mvs_depth ms
    rw [List.map_cons, PyData.depthAll]
    omega
theorem shaped_mvs {ms : List Mv} (h : ∀ e ∈ ms, LeafOk e.2.1) : SeqAt.shaped (.list (ms.map mvD)) = true := by
  unfold SeqAt.shaped
  rw [Bool.and_eq_true, decide_eq_true_eq]
  have := mvs_depth ms
  exact ⟨by rw [PyData.canLay0]; exact mvs_lay h, by rw [PyData.depth]; omega⟩
theorem shaped_mach {n : Nat} {ms : List Mv} (h : ∀ e ∈ ms, LeafOk e.2.1) : SeqAt.shaped (machD n ms) = true := by
  unfold SeqAt.shaped
  rw [Bool.and_eq_true, decide_eq_true_eq]
  have := mvs_depth ms
  refine ⟨?_, ?_⟩
  · simp only [machD, PyData.canLay0, PyData.canLayAll0, mvs_lay h, Bool.and_true]
  · simp only [machD, PyData.depth, PyData.depthAll]
    omega
/-- the leaves of a pattern's moves -/
theorem stay_ok : LeafOk Leaf.stay := trivial
mutual
theorem lay_ok : ∀ (p : Pt) (a b n : Nat), LOk p → ∀ e ∈ (layP p a b n).1, LeafOk e.2.1
  | .leaf l, a, b, n, h, e, he => by
    simp only [LOk] at h
    simp only [layP, lay, List.mem_singleton] at he
    rw [he]
    exact h
  | .thn ps, a, b, n, h, e, he => by
    simp only [LOk] at h
    simp only [layP, lay] at he
    exact row_ok ps a b n h e he
  | .eit ps, a, b, n, h, e, he => by
    simp only [LOk] at h
    simp only [layP, lay] at he
    exact eit_ok ps a b n h e he
  | .many p, a, b, n, h, e, he => by
    simp only [LOk] at h
    simp only [layP, lay] at he
    rcases List.mem_cons.mp he with rfl | he
    · exact stay_ok
    rcases List.mem_cons.mp he with rfl | he
    · exact stay_ok
    exact lay_ok p n n (n + 1) h e he
theorem eit_ok : ∀ (ps : List Pt) (a b n : Nat), LOkAll ps → ∀ e ∈ (eitP ps a b n).1, LeafOk e.2.1
  | [], a, b, n, _, e, he => by simp only [eitP, layEit] at he; cases he
  | p :: ps, a, b, n, h, e, he => by
    simp only [LOkAll] at h
    simp only [eitP, layEit] at he
    rcases List.mem_append.mp he with he | he
    · exact lay_ok p a b n h.1 e he
    · exact eit_ok ps a b _ h.2 e he
theorem row_ok : ∀ (ps : List Pt) (a b n : Nat), LOkAll ps → ∀ e ∈ (rowP ps a b n).1, LeafOk e.2.1
  | [], a, b, n, _, e, he => by
    simp only [rowP, layRow, List.mem_singleton] at he
    rw [he]
    exact stay_ok
  | [p], a, b, n, h, e, he => by
    simp only [LOkAll] at h
    simp only [rowP, layRow] at he
    exact lay_ok p a b n h.1 e he
  | p :: q :: ps, a, b, n, h, e, he => by
    rw [rowP_two] at he
    have h1 : LOk p := by simp only [LOkAll] at h; exact h.1
    have h2 : LOkAll (q :: ps) := by simp only [LOkAll] at h ⊢; exact h.2
    rcases List.mem_append.mp he with he | he
    · exact lay_ok p a n (n + 1) h1 e he
    · exact row_ok (q :: ps) n b _ h2 e he
end
theorem mvs_leaf {p : Pt} (h : LOk p) : ∀ e ∈ mvsOf p, LeafOk e.2.1 := fun e he => lay_ok p 0 1 2 h e (mvs_mem.mp he)
end PK
set_option Elab.async false
set_option linter.all false
set_option maxRecDepth 100000
set_option autoImplicit false
set_option maxHeartbeats 4000000
/-! The law's look at a machine. -/
namespace PK
open PySem PySem.Spec PyProof.Rows L2
section
variable {P : Program} {w : World} {K : PySem.W.Frag} {mg : Str → Option Value} {base : Heap}

abbrev sis_machine : Stmt := top 38
abbrev Nscis_machine : List Str := ["_law_thing", "_law_most", "_law_many", "_law_begin", "_law_ends_here", "_law_moves", "_law_stands", "_law_move", "_law_stand"]
theorem scis_machine : FnScope Nscis_machine ["_law_thing", "_law_most"] (defScope sis_machine) := ⟨rfl, rfl, rfl, by decide +kernel, rfl, by decide +kernel, by decide +kernel⟩
def spIsMach (K : PySem.W.Frag) : Sp := fun vs H Q _ => ∃ (v : V) (p : Pt), vs = [v, .int 100] ∧ Dt K H v (machD (nOf p) (mvsOf p)) ∧ PtOk p 38 39 10 ∧ ∀ H', Same H H' → Q (.bl true) H'
theorem ok_isMachine {f : Addr} {fd : FuncData} (F : Fun K "_law_is_machine" "_law_is_machine" sis_machine f fd) (G : Gs K mg) (D_law_is_stand : Def P w K mg base 1 "_law_is_stand" ["_law_thing", "_law_many"] spIsStand) (D_law_is_leaf : Def P w K mg base 2 "_law_is_leaf" ["_law_thing"] (spIsLeaf K)) :
    FnOk P w K mg base CX0 3 f fd ["_law_thing", "_law_most"] (spIsMach K) := by
  refine F.ok scis_machine (fun vs H Q E h => ?_) (fun cdv A outer s H vs Q E hr h => ?_)
  · obtain ⟨v, p, rfl, _⟩ := h
    rfl
  obtain ⟨v, p, rfl, hM, hok, q⟩ := h
  refine ⟨_, (pss_cons (ps_if (PW.pt (pw_or (pt_not (pt_val (pe_callB call_isi (by rfl) G.isinstance boot_isinstance (pa_cons (pv 0) (pa_cons (pe_bltn (v := .ty "tuple") (by rfl) G.tuple boot_tuple rfl) pa_nil))))) (pw_or1 (pt_cmpR op_ne (pe_callB call_len_seq (by rfl) G.len PySem.boot_len (pa_cons (pv 0) pa_nil)) pe_int (nomark _))))) (pss_one (ps_ret pe_bl)) pss_nil) (pss_cons (ps_asg (pv 0) (pg_tup rfl (pgs_cons (pg_name (i := 2) scis_machine.nd rfl (Or.inr rfl)) (pgs_cons (pg_name (i := 3) scis_machine.nd rfl (Or.inl rfl)) (pgs_cons (pg_name (i := 4) scis_machine.nd rfl (Or.inl rfl)) (pgs_cons (pg_name (i := 5) scis_machine.nd rfl (Or.inl rfl)) pgs_nil)))))) (pss_cons (ps_if (PW.pt (pw_or (pt_not (pt_val (pe_callB call_isi (by rfl) G.isinstance boot_isinstance (pa_cons (pv 4) (pa_cons (pe_bltn (v := .ty "tuple") (by rfl) G.tuple boot_tuple rfl) pa_nil))))) (pw_or1 (pt_not (pt_val (pe_callB call_isi (by rfl) G.isinstance boot_isinstance (pa_cons (pv 5) (pa_cons (pe_bltn (v := .ty "tuple") (by rfl) G.tuple boot_tuple rfl) pa_nil)))))))) (pss_one (ps_ret pe_bl)) pss_nil) (pss_cons (ps_if (PW.pt (pw_or (pt_not (pt_val (pe_def D_law_is_stand (hr.mono (by omega)) rfl (pa_cons (pv 2) (pa_cons (pe_op op_add (pv 1) pe_int) pa_nil))))) (pw_or1 (pt_cmpR op_lt (pv 2) pe_int (nomark _))))) (pss_one (ps_ret pe_bl)) pss_nil) (pss_cons (ps_set (i := 6) scis_machine.nd rfl (Or.inl rfl) (pe_op op_cat (pe_lst (pa_cons (pv 3) pa_nil)) (pe_callTy call_list_of (by rfl) G.list boot_list (pa_cons (pv 4) pa_nil)))) (pss_cons (ps_for PassesOwn.never rfl (pi_tup (pv 5)) (pg_name (i := 7) scis_machine.nd rfl (Or.inl rfl)) (pss_cons (ps_if (PW.pt (pw_or (pt_not (pt_val (pe_callB call_isi (by rfl) G.isinstance boot_isinstance (pa_cons (pv 7) (pa_cons (pe_bltn (v := .ty "tuple") (by rfl) G.tuple boot_tuple rfl) pa_nil))))) (pw_or (pt_cmpR op_ne (pe_callB call_len_seq (by rfl) G.len PySem.boot_len (pa_cons (pv 7) pa_nil)) pe_int (nomark _)) (pw_or1 (pt_not (pt_val (pe_def D_law_is_leaf (hr.mono (by omega)) rfl (pa_cons (pe_ix ix_tup (pv 7) pe_int (fun _ _ => rfl)) pa_nil)))))))) (pss_one (ps_ret pe_bl)) pss_nil) (pss_one (ps_expr (pe_bm PySem.F.plainAttrs_list PySem.F.slot_list_extend PySem.F.type_list_extend mt_extend (pv 6) (pa_cons (pe_lst (pa_cons (pe_ix ix_tup (pv 7) pe_int (fun _ _ => rfl)) (pa_cons (pe_ix ix_tup (pv 7) pe_int (fun _ _ => rfl)) pa_nil))) pa_nil)))))) (pss_cons (ps_if (pt_cmpR op_in_seq pe_bl (pe_lc (own := [("_law_stand", 8)]) rfl scis_machine.nd (pi_list (pv 6)) (blkOk_by (N := Nscis_machine) (sc := defScope sis_machine) (by decide +kernel)) (fun _ _ _ _ _ => (pg_name (i := 8) scis_machine.nd rfl (Or.inl rfl))) (fun _ _ _ _ _ => pts_nil) (fun _ _ _ _ _ => (pe_def D_law_is_stand (hr.mono (by omega)) rfl (pa_cons (pv 8) (pa_cons (pv 2) pa_nil))))) (by with_unfolding_all rfl)) (pss_one (ps_ret pe_bl)) pss_nil) (pss_one (ps_ret (pe_and (pe_cmpR (op_eqD hr.units) (pe_callTy call_list_of (by rfl) G.list boot_list (pa_cons (pv 4) pa_nil)) (pe_callB (cr_sortedSet rfl) (by rfl) G.sorted boot_sorted (pa_cons (pe_callTy (cr_setI2 rfl) (by rfl) G.set boot_set (pa_cons (pv 4) pa_nil)) pa_nil)) (nomark _)) (pe_one (pe_cmpR (op_eqD hr.units) (pe_callTy call_list_of (by rfl) G.list boot_list (pa_cons (pv 5) pa_nil)) (pe_callB (cr_sortSN rfl hr.units) (by rfl) G.sorted boot_sorted (pa_cons (pe_callTy (cr_setN rfl hr.units) (by rfl) G.set boot_set (pa_cons (pv 5) pa_nil)) pa_nil)) (nomark _))))))))))))), ?_⟩
  obtain ⟨a, ea, ma, mvs, rfl, h1, h2, h3, h4⟩ := machI hM
  have hml := h4.mapLen
  have hn := n_le hok
  have hlen := mvs_len hok
  -- a tuple of four
  refine ⟨_, rfl, .ref a, .ty "tuple", _, _, true, rfl, .ty "tuple", tyT h1, kit_ty (by decide +kernel), true, rfl, ?_⟩
  refine iteF (A := True) ?_
  refine ⟨_, rfl, a, _, rfl, .inr h1, rfl, false, congrArg V.bl (by show (!decide (V.int 4 = V.int 4)) = false; decide +kernel), ?_⟩
  refine iteF (A := True) ?_
  refine ⟨_, rfl, a, _, rfl, h1, rfl, _, _, rfl, _, _, rfl, _, _, rfl, _, _, rfl, rfl, ?_⟩
  -- the two tuples
  refine ⟨_, rfl, .ref ea, .ty "tuple", _, _, true, rfl, .ty "tuple", tyT h2, kit_ty (by decide +kernel), true, rfl, ?_⟩
  refine iteF (A := True) ?_
  refine ⟨_, rfl, .ref ma, .ty "tuple", _, _, true, rfl, .ty "tuple", tyT h3, kit_ty (by decide +kernel), true, rfl, ?_⟩
  refine iteF (A := True) ?_
  -- many is a stand below 101, and 1 at least
  refine ⟨_, rfl, _, rfl, _, _, rfl, rfl, (nOf p : Nat), 101, rfl, by omega, by omega, true, rfl, ?_⟩
  refine iteF (A := True) ?_
  have hn2 : 2 ≤ nOf p := by
    have := lay_next p 0 1 2
    unfold nOf
    omega
  refine ⟨_, rfl, _, _, rfl, rfl, false, congrArg V.bl (decide_eq_false (by omega)), ?_⟩
  refine iteF (A := True) ?_
  -- stands = [begin] + list(ends)
  refine ⟨_, rfl, by show 1 ≤ sizeLine; decide, fun l1 n1 => ?_⟩
  have s1 : Same H (upd H l1 (.lst [.int 0])) := same_new n1
  refine ⟨_, rfl, ea, _, rfl, .inr (same_seqT s1 h2), fun l2 n2 => ?_⟩
  have s2 := s1.trans (same_new (o := .lst [.int 1]) n2)
  refine ⟨l1, l2, _, _, rfl, rfl, same_new n2 _ _ upd_same, upd_same, by show 1 + 1 ≤ sizeLine; decide, fun sl nsl => ?_⟩
  have s3 := s2.trans (same_new (o := .lst ([V.int 0] ++ [V.int 1])) nsl)
  have hsl0 : H sl = none := s2.free nsl
  -- for move in moves
  refine ⟨_, rfl, ma, rfl, ⟨_, same_seqT s3 h3⟩, ?_⟩
  refine for_tup (xs := mvs) (fun i σ H' => ∃ (o7 : Option V) (zs : List Nat), σ = [some (.ref a), some (.int 100), some (.int (nOf p : Nat)), some (.int 0), some (.ref ea), some (.ref ma), some (.ref sl), o7, none] ∧ Same H H' ∧ H' sl = some (.lst (intsV zs)) ∧ zs.length ≤ 2 + 2 * i ∧ ∀ z ∈ zs, z < nOf p)
    ⟨none, [0, 1], rfl, s3, upd_same, Nat.le_refl _, fun z hz => by rcases List.mem_cons.mp hz with e | hz; · omega
                                                                    · rw [List.mem_singleton.mp hz]; omega⟩ (fun i σ H' _ ⟨_, _, _, sm, _⟩ => same_seqT sm h3) ?_ ?_
  · rintro i x σ H' hi ⟨o7, zs, rfl, sm, hsl, hzl, hz⟩
    have hi' : i < mvs.length := (List.getElem?_eq_some_iff.mp hi).1
    obtain ⟨e, he, hx⟩ := h4.mapGet hi
    have hmem := List.mem_of_getElem? he
    obtain ⟨b, lv, rfl, hb, hlv⟩ := mvI hx
    have hb := same_seqT sm hb
    have hlo := insAll_local p e hmem
    refine ⟨_, rfl, .ref b, .ty "tuple", _, _, true, rfl, .ty "tuple", tyT hb, kit_ty (by decide +kernel), true, rfl, ?_⟩
    refine iteF (A := True) ?_
    refine ⟨_, rfl, b, _, rfl, .inr hb, rfl, false, congrArg V.bl (by show (!decide (V.int 3 = V.int 3)) = false; decide +kernel), ?_⟩
    refine iteF (A := True) ?_
    refine ⟨_, rfl, b, _, 1, _, rfl, rfl, hb, at1, lv, e.2.1, rfl, hlv.same sm, mvs_leaf hok.lo e hmem, fun H2 s4 => ⟨true, rfl, ?_⟩⟩
    refine iteF (A := True) ?_
    have hsl2 := s4 _ _ hsl
    refine ⟨_, rfl, Or.inl ⟨rfl, _, SqL.of hsl2⟩, _, rfl, b, _, 0, _, rfl, rfl, same_seqT s4 hb, at0, _, rfl, b, _, 2, _, rfl, rfl, same_seqT s4 hb, at2, by show 2 ≤ sizeLine; decide, fun l nl => ?_⟩
    have s5 : Same H2 (upd H2 l (.lst [.int (e.1 : Nat), .int (e.2.2 : Nat)])) := same_new nl
    refine ⟨sl, l, intsV zs, [.int (e.1 : Nat), .int (e.2.2 : Nat)], rfl, rfl, s5 _ _ hsl2, upd_same, by rw [lenV]; exact line_big (by show zs.length + 2 ≤ 100000; omega), ?_⟩
    refine ⟨_, zs ++ [e.1, e.2.2], rfl, same_put ((sm.trans s4).trans s5) hsl0, by rw [upd_same]; simp, by rw [List.length_append]; show zs.length + 2 ≤ _; omega, fun z hz' => ?_⟩
    rcases List.mem_append.mp hz' with hz' | hz'
    · exact hz z hz'
    · rcases List.mem_cons.mp hz' with rfl | hz'
      · exact hlo.1
      · rw [List.mem_singleton.mp hz']
        exact hlo.2
  · rintro σ H1 ⟨o7, zs, rfl, sm, hsl, hzl, hz⟩
    rw [hml] at hzl
    -- False in [is_stand(stand, many) ..]
    refine ⟨_, rfl, sl, rfl, ⟨_, SqL.of hsl⟩, fun D hD => ?_⟩
    refine lc_list (xs := intsV zs) (fun i H2 => Same H1 H2 ∧ H2 D = some (.lst (List.replicate i (V.bl true)))) ⟨same_new hD, upd_same⟩ (fun i H2 _ ⟨sm2, _⟩ => SqL.of (sm2 _ _ hsl)) ?_ ?_
    · rintro i x H2 hi ⟨sm2, hDi⟩
      obtain ⟨z, hz1, rfl⟩ := intsV_at hi
      have hi' : i < zs.length := (List.getElem?_eq_some_iff.mp hz1).1
      have hzn := hz z (List.mem_of_getElem? hz1)
      refine ⟨rfl, iteT (B := True) ?_⟩
      refine ⟨_, rfl, _, rfl, (z : Nat), (nOf p : Nat), rfl, by omega, by omega, ?_⟩
      refine ⟨_, hDi, by rw [List.length_replicate]; exact line_lt (by omega), same_put sm2 hD, ?_⟩
      rw [upd_same, List.replicate_succ']
    · rintro H2 ⟨sm2, hD2⟩
      refine ⟨D, _, rfl, .inl (SqL.of hD2), rfl, ?_, false, ?_, ?_⟩
      · rw [List.all_eq_true]
        intro v hv
        rw [(List.mem_replicate.mp hv).2]
        rfl
      · rw [if_neg Bool.false_ne_true]
        refine congrArg V.bl ?_
        unfold inV
        rw [List.any_eq_false]
        intro v hv
        rw [(List.mem_replicate.mp hv).2]
        decide
      refine iteF (A := True) ?_
      have smA := sm.trans sm2
      -- list(ends) == sorted(set(ends))
      refine ⟨_, rfl, ea, _, rfl, .inr (same_seqT smA h2), fun l3 n3 => ?_⟩
      have s3' : Same H2 (upd H2 l3 (.lst [.int 1])) := same_new n3
      refine ⟨_, rfl, ea, [1], rfl, same_seqT (smA.trans s3') h2, by decide, fun st c nst hc1 => ?_⟩
      have s4 := s3'.trans (same_new (o := SetO w st (fun j => decide (j ∈ [(1 : Int)])) c) nst)
      have hc1' : c ≤ 1 := hc1
      refine ⟨st, _, c, rfl, upd_same, by omega, fun ns l4 hpw hns _ n4 => ?_⟩
      have hns1 : ns = [1] := by
        have h1 : (1 : Int) ∈ ns := (hns 1).mpr (by decide)
        have hall : ∀ k ∈ ns, k = 1 := fun k hk => by
          have := (hns k).mp hk
          rw [decide_eq_true_eq] at this
          exact List.mem_singleton.mp this
        cases ns with
        | nil => cases h1
        | cons x r =>
          have hx := hall x List.mem_cons_self
          cases r with
          | nil => rw [hx]
          | cons y r =>
            have hy := hall y (List.mem_cons_of_mem _ List.mem_cons_self)
            have := (List.pairwise_cons.mp hpw).1 y List.mem_cons_self
            omega
      subst hns1
      have s5 := s4.trans (same_new (o := .lst (([1] : List Int).map V.int)) n4)
      refine ⟨.list [.int 1], .list [.int 1], .lst (SqL.of (same_new n4 _ _ (same_new nst _ _ upd_same))) (.cons (.int 1) .nil), .lst (SqL.of upd_same) (.cons (.int 1) .nil), by decide, by decide, true, ?_, iteT ?_⟩
      · exact congrArg V.bl (by decide)
      -- list(moves) == sorted(set(moves))
      have smB := smA.trans s5
      refine ⟨_, rfl, ma, _, rfl, .inr (same_seqT smB h3), fun l5 n5 => ?_⟩
      have s6 := same_new (o := .lst mvs) n5
      have h4B := h4.same (smB.trans s6)
      refine ⟨_, rfl, ma, mvs, mvsOf p, rfl, same_seqT (smB.trans s6) h3, h4B, mvs_nodup p, by omega, fun st2 ks n6 hks hkd => ?_⟩
      have s7 := same_new (o := SMO w st2 ks) n6
      have hkl : ks.length = (mvsOf p).length := by rw [← hks, List.length_map]
      refine ⟨st2, ks, rfl, upd_same, fun q hq => (hkd q hq).same s7, by omega, fun l6 ys ms n7 hms hys => ?_⟩
      have s8 := same_new (o := .lst ys) n7
      rw [hks] at hms
      rw [srt_mvs hms] at hys
      have h5 := DtAll.dp (h4B.same (s7.trans s8))
      refine ⟨.list ((mvsOf p).map mvD), .list ((mvsOf p).map mvD), .lst (SqL.of (s8 _ _ (s7 _ _ upd_same))) h5, .lst (SqL.of upd_same) (DtAll.dp (DtAll.same s8 hys)), shaped_mvs (mvs_leaf hok.lo), shaped_mvs (mvs_leaf hok.lo), ?_⟩
      rw [SeqAt.eqv_refl _ (SeqAt.canLay_of_shaped (shaped_mvs (mvs_leaf hok.lo)))]
      exact q _ ((smB.trans s6).trans (s7.trans s8))
end
end PK
set_option Elab.async false
set_option linter.all false
set_option maxRecDepth 100000
set_option autoImplicit false
set_option maxHeartbeats 4000000
/-! The law. -/
namespace PK
open PySem PySem.Spec PyProof.Rows L2
theorem at_mem {L : Type} {one : L → Nat → Nat → Prop} {E E' : List (Edge L)} (h : ∀ e, e ∈ E → e ∈ E') {j s : Nat} (q : At one E j s) : At one E' j s := by
  induction q with
  | begin => exact .begin
  | move _ h2 h3 ih => exact .move ih (h _ h2) h3
theorem reach_fit (p : Pt) (mks : List (List Str)) (ss : List Step) (j : Nat) : Reach (mvsOf p) mks ss j 1 ↔ FitP mks ss p 0 j := by
  have h := at_end (one := oneAt mks ss) (fun i j => oneAt_stay mks ss i j) p j
  exact Iff.trans ⟨at_mem fun e he => mvs_mem.mp he, at_mem fun e he => mvs_mem.mpr he⟩ h
/-- the marks along a way -/
theorem marks_of {ks : List (Str × List Str)} : ∀ {ss : List Step}, (∀ s ∈ ss, s.2.2 ∈ ks.map (·.1)) → ∃ mks : List (List Str), ss.length = mks.length ∧ ∀ (i : Nat) s m, ss[i]? = some s → mks[i]? = some m → (s.2.2, m) ∈ ks
  | [], _ => ⟨[], rfl, fun i s m h => by simp at h⟩
  | s :: ss, h => by
    obtain ⟨mks, h1, h2⟩ := marks_of (ss := ss) fun t ht => h t (List.mem_cons_of_mem _ ht)
    obtain ⟨k, hk, e⟩ := List.mem_map.mp (h s List.mem_cons_self)
    refine ⟨k.2 :: mks, by rw [List.length_cons, List.length_cons, h1], fun i t m hi hm => ?_⟩
    cases i with
    | zero =>
      cases Option.some.inj hi
      cases Option.some.inj hm
      rw [← e]
      exact hk
    | succ i => exact h2 i t m hi hm
theorem shaped_of {p : Pt} (h : LOk p) : SeqAt.shaped (machD (nOf p) (mvsOf p)) = true := shaped_mach (mvs_leaf h)
section
variable {P : Program} {w : World} {K : PySem.W.Frag} {mg : Str → Option Value} {base : Heap}

abbrev slaw : Stmt := top 43
abbrev Nsclaw : List Str := ["_law_script", "_law_cell", "_law_pattern_here", "_law_machine", "_law_k", "_law_rows_here", "_law_web", "_law_knot", "_law_way", "_law_due", "_law_told"]
theorem sclaw : FnScope Nsclaw ["_law_script"] (defScope slaw) := ⟨rfl, rfl, rfl, by decide +kernel, rfl, by decide +kernel, by decide +kernel⟩
def spLaw (K : PySem.W.Frag) : Sp := fun vs H Q _ => ∃ (a : Addr) (ns : List Int), vs = [.ref a] ∧ SqL K H a (ns.map V.int) ∧ ns.length ≤ 63 ∧ ∀ H', Q (.bl true) H'
theorem ok_law {f C : Addr} {fd : FuncData} {k : Nat} (F : Fun K "law" "law" slaw f fd) (G : Gs K mg) (D_law_cell_at : Def P w K mg base k "_law_cell_at" ["_law_script", "_law_k"] (spCellAt K)) (D_law_pattern : Def P w K mg base k "_law_pattern" ["_law_cell", "_law_deep"] (spPattern K))
    (D_law_great : Def P w K mg base k "_law_great" ["_law_cell"] (spGreat K)) (Dmachine_of : Def P w K mg base k "machine_of" ["pattern"] (spMach K)) (D_law_is_machine : Def P w K mg base k "_law_is_machine" ["_law_thing", "_law_most"] (spIsMach K))
    (D_law_rows : Def P w K mg base k "_law_rows" ["_law_cell", "_law_most"] (spRows K)) (D_law_laid : Def P w K mg base k "_law_laid" ["_law_rows_here"] (spLaid K C)) (D_law_ways : Def P w K mg base k "_law_ways" ["_law_rows_here", "_law_knot", "_law_most", "_law_cap"] (spWays K))
    (D_law_fits : Def P w K mg base k "_law_fits" ["_law_rows_here", "_law_pattern_here", "_law_way"] (spFits K)) (Dgoes : Def P w K mg base k "goes" ["web", "machine", "way"] (spGoes K C)) (D_law_gone : Def P w K mg base k "_law_gone" ["_law_rows_here", "_law_machine", "_law_way"] (spGone K)) :
    FnOk P w K mg base CX0 (k + 1) f fd ["_law_script"] (spLaw K) := by
  refine F.ok sclaw (fun vs H Q E h => ?_) (fun cdv A outer s H vs Q E hr h => ?_)
  · obtain ⟨a, ns, rfl, _⟩ := h
    rfl
  obtain ⟨a, ns, rfl, hS, hnl, q⟩ := h
  refine ⟨_, (pss_cons (ps_set (i := 1) sclaw.nd rfl (Or.inl rfl) (pe_def D_law_cell_at (hr.mono (by omega)) rfl (pa_cons (pv 0) (pa_cons pe_int pa_nil)))) (pss_cons (ps_set (i := 2) sclaw.nd rfl (Or.inl rfl) (pe_def D_law_pattern (hr.mono (by omega)) rfl (pa_cons (pe_op op_fdiv (pv 1) pe_int) (pa_cons pe_int pa_nil)))) (pss_cons (ps_if (pt_cmpR op_eq (pe_op op_mod (pv 1) pe_int) pe_int (nomark _)) (pss_one (ps_set (i := 2) sclaw.nd rfl (Or.inl rfl) (pe_def D_law_great (hr.mono (by omega)) rfl (pa_cons (pe_op op_fdiv (pv 1) pe_int) pa_nil)))) pss_nil) (pss_cons (ps_set (i := 3) sclaw.nd rfl (Or.inl rfl) (pe_def Dmachine_of (hr.mono (by omega)) rfl (pa_cons (pv 2) pa_nil))) (pss_cons (ps_if (PW.pt (pw_or (pt_not (pt_val (pe_def D_law_is_machine (hr.mono (by omega)) rfl (pa_cons (pv 3) (pa_cons pe_int pa_nil))))) (pw_or1 (pt_cmpR (op_neD hr.units) (pe_def Dmachine_of (hr.mono (by omega)) rfl (pa_cons (pv 2) pa_nil)) (pv 3) (nomark _))))) (pss_one (ps_ret pe_bl)) pss_nil) (pss_cons (ps_for PassesOwn.never rfl (pi_range1 rfl G.range (pa_cons (pe_op op_add pe_int (pe_callB call_len_seq (by rfl) G.len PySem.boot_len (pa_cons (pe_slice sl_list (pv 0) (po_some pe_int) (po_some pe_int)) pa_nil))) pa_nil)) (pg_name (i := 4) sclaw.nd rfl (Or.inl rfl)) (pss_cons (ps_set (i := 5) sclaw.nd rfl (Or.inl rfl) (pe_def D_law_rows (hr.mono (by omega)) rfl (pa_cons (pe_def D_law_cell_at (hr.mono (by omega)) rfl (pa_cons (pv 0) (pa_cons (pe_op op_add pe_int (pv 4)) pa_nil))) (pa_cons pe_int pa_nil)))) (pss_cons (ps_set (i := 6) sclaw.nd rfl (Or.inl rfl) (pe_def D_law_laid (hr.mono (by omega)) rfl (pa_cons (pv 5) pa_nil))) (pss_cons (ps_set (i := 7) sclaw.nd rfl (Or.inl rfl) (pe_ix ix_list (pe_callTy (call_list_dK rfl) (by rfl) G.list boot_list (pa_cons (pe_ix ix_tup (pv 5) pe_int (fun _ _ => rfl)) pa_nil)) (pe_op op_mod (pv 1) (pe_callB call_lenD (by rfl) G.len PySem.boot_len (pa_cons (pe_ix ix_tup (pv 5) pe_int (fun _ _ => rfl)) pa_nil))) (fun _ _ => rfl))) (pss_one (ps_for PassesOwn.never rfl (pi_list (pe_def D_law_ways (hr.mono (by omega)) rfl (pa_cons (pv 5) (pa_cons (pv 7) (pa_cons pe_int (pa_cons pe_int pa_nil)))))) (pg_name (i := 8) sclaw.nd rfl (Or.inl rfl)) (pss_cons (ps_set (i := 9) sclaw.nd rfl (Or.inl rfl) (pe_def D_law_fits (hr.mono (by omega)) rfl (pa_cons (pv 5) (pa_cons (pv 2) (pa_cons (pv 8) pa_nil))))) (pss_cons (ps_set (i := 10) sclaw.nd rfl (Or.inl rfl) (pe_def Dgoes (hr.mono (by omega)) rfl (pa_cons (pv 6) (pa_cons (pv 3) (pa_cons (pv 8) pa_nil))))) (pss_one (ps_if (PW.pt (pw_or (pt_cmpR op_ne (pe_def D_law_gone (hr.mono (by omega)) rfl (pa_cons (pv 5) (pa_cons (pv 3) (pa_cons (pv 8) pa_nil)))) (pv 9) (nomark _)) (pw_or (pt_cmpR op_ne (pv 10) (pv 9) (nomark _)) (pw_or1 (pt_not (pt_val (pe_callB call_isi (by rfl) G.isinstance boot_isinstance (pa_cons (pv 10) (pa_cons (pe_bltn (v := .ty "bool") (by rfl) G.bool boot_bool rfl) pa_nil))))))))) (pss_one (ps_ret pe_bl)) pss_nil)))))))))) (pss_one (ps_ret pe_bl)))))))), ?_⟩
  refine ⟨_, rfl, a, ns, 0, rfl, hS, by decide, fun cell => ?_⟩
  refine ⟨_, rfl, _, _, rfl, rfl, ⟨by decide, by decide⟩, cell / 16, rfl, fun H1 v1 p1 sm1 hv1 hp1 => ?_⟩
  refine ⟨_, rfl, _, _, rfl, rfl, (by show (0 : Int) < 16; decide), rfl, _, rfl, ?_⟩
  refine ite_b (fun _ => ?_) (fun _ => ?_)
  · refine ⟨_, rfl, _, _, rfl, rfl, ⟨by decide, by decide⟩, cell / 16, rfl, fun H2 v2 p2 sm2 hv2 hp2 => ?_⟩
    -- the machine
    refine ⟨_, rfl, v2, p2, rfl, hv2, hp2, fun H3 mv sm3 hm => ?_⟩
    refine ⟨_, rfl, mv, p2, rfl, hm, hp2, fun H4 sm4 => ⟨true, rfl, ?_⟩⟩
    refine iteF (A := True) ?_
    have hv4 := hv2.same (sm3.trans sm4)
    refine ⟨_, rfl, v2, p2, rfl, hv4, hp2, fun H5 mv2 sm5 hm2 => ?_⟩
    have hm5 := hm.same (sm4.trans sm5)
    refine ⟨_, rfl, _, _, hm2.dp, hm5.dp, shaped_of hp2.lo, shaped_of hp2.lo, false, ?_, ?_⟩
    · rw [SeqAt.eqv_refl _ (SeqAt.canLay_of_shaped (shaped_of hp2.lo))]
      rfl
    refine iteF (A := True) ?_
    have hv5 := hv4.same sm5
    have smB : Same H H5 := (sm1.trans sm2).trans ((sm3.trans sm4).trans sm5)
    -- for k in range(1 + len(script[1:2]))
    refine ⟨_, rfl, _, rfl, _, rfl, a, _, rfl, smB.seq hS, fun sl nsl => ?_⟩
    have s6 : Same H5 (upd H5 sl (.lst (cutV (ns.map V.int) (some 1) (some 2)))) := same_new nsl
    refine ⟨sl, _, rfl, .inl (SqL.of upd_same), _, _, rfl, rfl, _, rfl, ?_, ?_, ?_⟩
    · omega
    · have := cutV_length (ns.map V.int) (some 1) (some 2)
      rw [List.length_map] at this
      omega
    generalize (1 + (((cutV (ns.map V.int) (some 1) (some 2)).length : Nat) : Int)).toNat = turns
    refine for_range (lo := 0) (n := turns) (fun i σ H' => ∃ o4 o5 o6 o7 o8 o9 o10 : Option V, σ = [some (.ref a), some (.int cell), some v2, some mv, o4, o5, o6, o7, o8, o9, o10] ∧ Same H5 H') ⟨none, none, none, none, none, none, none, rfl, s6⟩ ?_ ?_
    · rintro i σ H6 _ ⟨o4, o5, o6, o7, o8, o9, o10, rfl, sm6⟩
      -- rows, web, knot
      refine ⟨_, rfl, _, rfl, _, _, rfl, rfl, a, ns, _, rfl, (smB.trans sm6).seq hS, by omega, fun c2 => ?_⟩
      refine ⟨c2, rfl, fun H7 r ks ts sm7 hR hok => ?_⟩
      refine ⟨_, rfl, r, ks, ts, rfl, hR, hok, fun H8 wb sm8 hW => ?_⟩
      have hR8 := hR.same sm8
      obtain ⟨rd, rl, kvs, tv, r1, r2, r3, r4, r5, r6⟩ := id hR8
      have hkl : kvs.length = ks.length := by have := congrArg List.length r3; simpa using this
      have hk0 : 0 < ks.length := List.length_pos_iff.mpr hok.some
      have hfew := hok.few
      refine ⟨_, rfl, r, _, 0, _, rfl, rfl, r1, at0, rd, kvs, rfl, r2, fun l nl => ?_⟩
      have s9 : Same H8 (upd H8 l (.lst (kvs.map fun kv => kV kv.1))) := same_new nl
      have hkeys : (kvs.map fun kv => kV kv.1) = (ks.map (·.1)).map V.str := by
        have h1 : (kvs.map fun kv => kV kv.1) = (kvs.map (·.1)).map kV := by rw [List.map_map]; rfl
        rw [h1, r3, List.map_map, List.map_map]
        rfl
      have hpos : (0 : Int) < (kvs.length : Nat) := by omega
      obtain ⟨kn, hkn, ekn⟩ := atI_strs (xs := ks.map (·.1)) (i := cell % (kvs.length : Nat)) (Int.emod_nonneg _ (by omega)) (by have := Int.emod_lt_of_pos cell hpos; rw [List.length_map, ← hkl]; exact this)
      refine ⟨_, rfl, _, rfl, r, _, 0, _, rfl, rfl, same_seqT s9 r1, at0, rd, kvs, rfl, s9 _ _ r2, _, _, rfl, rfl, hpos, l, _, _, _, rfl, rfl, SqL.of upd_same, by rw [hkeys]; exact ekn, ?_⟩
      -- for way in ways(rows, knot, 3, 12)
      refine ⟨_, rfl, _, rfl, r, kn, ks, ts, rfl, hR8.same s9, hok, hkn, fun H9 wl xs wys sm9 hwl hws hwo => ?_⟩
      refine ⟨wl, rfl, ⟨_, SqL.of hwl⟩, ?_⟩
      have smC : Same H8 H9 := s9.trans sm9
      have smD : Same H5 H9 := ((sm6.trans sm7).trans sm8).trans smC
      refine for_list (xs := xs) (fun j σ H' => ∃ o8 o9 o10 : Option V, σ = [some (.ref a), some (.int cell), some v2, some mv, some (.int (0 + (i : Nat))), some (.ref r), some (.ref wb), some (.str kn), o8, o9, o10] ∧ Same H9 H') ⟨o8, o9, o10, rfl, Same.refl H9⟩ (fun j σ H' _ ⟨_, _, _, _, sm⟩ => SqL.of (sm _ _ hwl)) ?_ ?_
      · rintro j x σ H10 hj ⟨o8, o9, o10, rfl, smj⟩
        obtain ⟨ss, hss, hx⟩ := hws.mapGet hj
        obtain ⟨hs3, hso⟩ := hwo ss (List.mem_of_getElem? hss)
        obtain ⟨mks, hml, hat⟩ := marks_of (ks := ks) (ss := ss) fun s hs => (hso s hs).2
        obtain ⟨kk, hkk, ekk⟩ := List.mem_map.mp hkn
        have hkm : (kn, kk.2) ∈ ks := by rw [← ekk]; exact hkk
        have smE : Same H5 H10 := smD.trans smj
        have hR10 := hR8.same (smC.trans smj)
        have hx10 := hx.same smj
        have hv10 := hv5.same smE
        have hm10 := hm5.same smE
        -- due
        refine ⟨_, rfl, _, rfl, _, rfl, r, v2, x, p2, ks, ts, kn, ss, kk.2, mks, rfl, hR10, hv10, hp2.dp, hx10, by omega, hkm, hml, hat, fun H11 b1 sm11 hb1 => ?_⟩
        -- told
        refine ⟨_, rfl, _, rfl, _, rfl, wb, mv, x, ks, nOf p2, mvsOf p2, kn, ss, kk.2, mks, rfl, hW.same ((smC.trans smj).trans sm11), hm10.same sm11, hx10.same sm11, mvs_ok hp2, hkm, hok.marks (kn, kk.2) hkm, hml, fun i s m h1 h2 => ⟨hat i s m h1 h2, hok.marks _ (hat i s m h1 h2)⟩, fun H12 b2 sm12 hb2 => ?_⟩
        -- gone
        have smF := sm11.trans sm12
        refine ⟨_, rfl, _, rfl, _, rfl, r, mv, x, ks, ts, nOf p2, mvsOf p2, kn, ss, kk.2, mks, rfl, hR10.same smF, hm10.same smF, hx10.same smF, mvs_ok hp2, hkm, hml, hat, fun H13 b3 sm13 hb3 => ?_⟩
        have e2 : b2 = b1 := by
          rw [Bool.eq_iff_iff, hb2, hb1]
          exact reach_fit p2 _ _ _
        have e3 : b3 = b1 := by
          rw [Bool.eq_iff_iff, hb3, hb1]
          exact reach_fit p2 _ _ _
        subst e2
        subst e3
        have nb : ∀ b : Bool, (!decide (V.bl b = V.bl b)) = false := fun b => by rw [decide_eq_true rfl]; rfl
        refine ⟨_, rfl, rfl, false, congrArg V.bl (nb _), ?_⟩
        refine iteF (A := True) ?_
        refine ⟨_, rfl, _, rfl, rfl, false, congrArg V.bl (nb _), ?_⟩
        refine iteF (A := True) ?_
        refine ⟨_, rfl, .bl _, .ty "bool", _, _, true, rfl, .ty "bool", .base (.bl _), kit_ty (by decide +kernel), true, rfl, ?_⟩
        refine iteF (A := True) ?_
        exact ⟨_, _, _, rfl, (smj.trans smF).trans sm13⟩
      · rintro σ H10 ⟨o8, o9, o10, rfl, smj⟩
        exact ⟨_, _, _, _, _, _, _, rfl, smD.trans smj⟩
    · rintro σ H6 ⟨o4, o5, o6, o7, o8, o9, o10, rfl, sm6⟩
      exact q H6
  · skip
    -- the machine
    refine ⟨_, rfl, v1, p1, rfl, hv1, hp1, fun H3 mv sm3 hm => ?_⟩
    refine ⟨_, rfl, mv, p1, rfl, hm, hp1, fun H4 sm4 => ⟨true, rfl, ?_⟩⟩
    refine iteF (A := True) ?_
    have hv4 := hv1.same (sm3.trans sm4)
    refine ⟨_, rfl, v1, p1, rfl, hv4, hp1, fun H5 mv2 sm5 hm2 => ?_⟩
    have hm5 := hm.same (sm4.trans sm5)
    refine ⟨_, rfl, _, _, hm2.dp, hm5.dp, shaped_of hp1.lo, shaped_of hp1.lo, false, ?_, ?_⟩
    · rw [SeqAt.eqv_refl _ (SeqAt.canLay_of_shaped (shaped_of hp1.lo))]
      rfl
    refine iteF (A := True) ?_
    have hv5 := hv4.same sm5
    have smB : Same H H5 := sm1.trans ((sm3.trans sm4).trans sm5)
    -- for k in range(1 + len(script[1:2]))
    refine ⟨_, rfl, _, rfl, _, rfl, a, _, rfl, smB.seq hS, fun sl nsl => ?_⟩
    have s6 : Same H5 (upd H5 sl (.lst (cutV (ns.map V.int) (some 1) (some 2)))) := same_new nsl
    refine ⟨sl, _, rfl, .inl (SqL.of upd_same), _, _, rfl, rfl, _, rfl, ?_, ?_, ?_⟩
    · omega
    · have := cutV_length (ns.map V.int) (some 1) (some 2)
      rw [List.length_map] at this
      omega
    generalize (1 + (((cutV (ns.map V.int) (some 1) (some 2)).length : Nat) : Int)).toNat = turns
    refine for_range (lo := 0) (n := turns) (fun i σ H' => ∃ o4 o5 o6 o7 o8 o9 o10 : Option V, σ = [some (.ref a), some (.int cell), some v1, some mv, o4, o5, o6, o7, o8, o9, o10] ∧ Same H5 H') ⟨none, none, none, none, none, none, none, rfl, s6⟩ ?_ ?_
    · rintro i σ H6 _ ⟨o4, o5, o6, o7, o8, o9, o10, rfl, sm6⟩
      -- rows, web, knot
      refine ⟨_, rfl, _, rfl, _, _, rfl, rfl, a, ns, _, rfl, (smB.trans sm6).seq hS, by omega, fun c2 => ?_⟩
      refine ⟨c2, rfl, fun H7 r ks ts sm7 hR hok => ?_⟩
      refine ⟨_, rfl, r, ks, ts, rfl, hR, hok, fun H8 wb sm8 hW => ?_⟩
      have hR8 := hR.same sm8
      obtain ⟨rd, rl, kvs, tv, r1, r2, r3, r4, r5, r6⟩ := id hR8
      have hkl : kvs.length = ks.length := by have := congrArg List.length r3; simpa using this
      have hk0 : 0 < ks.length := List.length_pos_iff.mpr hok.some
      have hfew := hok.few
      refine ⟨_, rfl, r, _, 0, _, rfl, rfl, r1, at0, rd, kvs, rfl, r2, fun l nl => ?_⟩
      have s9 : Same H8 (upd H8 l (.lst (kvs.map fun kv => kV kv.1))) := same_new nl
      have hkeys : (kvs.map fun kv => kV kv.1) = (ks.map (·.1)).map V.str := by
        have h1 : (kvs.map fun kv => kV kv.1) = (kvs.map (·.1)).map kV := by rw [List.map_map]; rfl
        rw [h1, r3, List.map_map, List.map_map]
        rfl
      have hpos : (0 : Int) < (kvs.length : Nat) := by omega
      obtain ⟨kn, hkn, ekn⟩ := atI_strs (xs := ks.map (·.1)) (i := cell % (kvs.length : Nat)) (Int.emod_nonneg _ (by omega)) (by have := Int.emod_lt_of_pos cell hpos; rw [List.length_map, ← hkl]; exact this)
      refine ⟨_, rfl, _, rfl, r, _, 0, _, rfl, rfl, same_seqT s9 r1, at0, rd, kvs, rfl, s9 _ _ r2, _, _, rfl, rfl, hpos, l, _, _, _, rfl, rfl, SqL.of upd_same, by rw [hkeys]; exact ekn, ?_⟩
      -- for way in ways(rows, knot, 3, 12)
      refine ⟨_, rfl, _, rfl, r, kn, ks, ts, rfl, hR8.same s9, hok, hkn, fun H9 wl xs wys sm9 hwl hws hwo => ?_⟩
      refine ⟨wl, rfl, ⟨_, SqL.of hwl⟩, ?_⟩
      have smC : Same H8 H9 := s9.trans sm9
      have smD : Same H5 H9 := ((sm6.trans sm7).trans sm8).trans smC
      refine for_list (xs := xs) (fun j σ H' => ∃ o8 o9 o10 : Option V, σ = [some (.ref a), some (.int cell), some v1, some mv, some (.int (0 + (i : Nat))), some (.ref r), some (.ref wb), some (.str kn), o8, o9, o10] ∧ Same H9 H') ⟨o8, o9, o10, rfl, Same.refl H9⟩ (fun j σ H' _ ⟨_, _, _, _, sm⟩ => SqL.of (sm _ _ hwl)) ?_ ?_
      · rintro j x σ H10 hj ⟨o8, o9, o10, rfl, smj⟩
        obtain ⟨ss, hss, hx⟩ := hws.mapGet hj
        obtain ⟨hs3, hso⟩ := hwo ss (List.mem_of_getElem? hss)
        obtain ⟨mks, hml, hat⟩ := marks_of (ks := ks) (ss := ss) fun s hs => (hso s hs).2
        obtain ⟨kk, hkk, ekk⟩ := List.mem_map.mp hkn
        have hkm : (kn, kk.2) ∈ ks := by rw [← ekk]; exact hkk
        have smE : Same H5 H10 := smD.trans smj
        have hR10 := hR8.same (smC.trans smj)
        have hx10 := hx.same smj
        have hv10 := hv5.same smE
        have hm10 := hm5.same smE
        -- due
        refine ⟨_, rfl, _, rfl, _, rfl, r, v1, x, p1, ks, ts, kn, ss, kk.2, mks, rfl, hR10, hv10, hp1.dp, hx10, by omega, hkm, hml, hat, fun H11 b1 sm11 hb1 => ?_⟩
        -- told
        refine ⟨_, rfl, _, rfl, _, rfl, wb, mv, x, ks, nOf p1, mvsOf p1, kn, ss, kk.2, mks, rfl, hW.same ((smC.trans smj).trans sm11), hm10.same sm11, hx10.same sm11, mvs_ok hp1, hkm, hok.marks (kn, kk.2) hkm, hml, fun i s m h1 h2 => ⟨hat i s m h1 h2, hok.marks _ (hat i s m h1 h2)⟩, fun H12 b2 sm12 hb2 => ?_⟩
        -- gone
        have smF := sm11.trans sm12
        refine ⟨_, rfl, _, rfl, _, rfl, r, mv, x, ks, ts, nOf p1, mvsOf p1, kn, ss, kk.2, mks, rfl, hR10.same smF, hm10.same smF, hx10.same smF, mvs_ok hp1, hkm, hml, hat, fun H13 b3 sm13 hb3 => ?_⟩
        have e2 : b2 = b1 := by
          rw [Bool.eq_iff_iff, hb2, hb1]
          exact reach_fit p1 _ _ _
        have e3 : b3 = b1 := by
          rw [Bool.eq_iff_iff, hb3, hb1]
          exact reach_fit p1 _ _ _
        subst e2
        subst e3
        have nb : ∀ b : Bool, (!decide (V.bl b = V.bl b)) = false := fun b => by rw [decide_eq_true rfl]; rfl
        refine ⟨_, rfl, rfl, false, congrArg V.bl (nb _), ?_⟩
        refine iteF (A := True) ?_
        refine ⟨_, rfl, _, rfl, rfl, false, congrArg V.bl (nb _), ?_⟩
        refine iteF (A := True) ?_
        refine ⟨_, rfl, .bl _, .ty "bool", _, _, true, rfl, .ty "bool", .base (.bl _), kit_ty (by decide +kernel), true, rfl, ?_⟩
        refine iteF (A := True) ?_
        exact ⟨_, _, _, rfl, (smj.trans smF).trans sm13⟩
      · rintro σ H10 ⟨o8, o9, o10, rfl, smj⟩
        exact ⟨_, _, _, _, _, _, _, rfl, smD.trans smj⟩
    · rintro σ H6 ⟨o4, o5, o6, o7, o8, o9, o10, rfl, sm6⟩
      exact q H6
end
end PK
set_option Elab.async false
set_option linter.all false
set_option maxRecDepth 100000
set_option autoImplicit false
set_option maxHeartbeats 4000000
/-! The program's defs, joined. -/
namespace PK
open PySem PySem.Spec PyProof.Rows L2
/-- a def's object -/
structure HasFn (K : PySem.W.Frag) (x q : Str) (st : Stmt) (f : Addr) : Prop where
  ex : ∃ (oc kV doc pm cdv ct : Value) (od an : Option Addr) (osl : Array (Option Value)), K.lookup f = some ⟨oc, od, .func (PySem.W.fnOf x q (defArgs st) (defBody st) (defScope st) .none kV doc pm an cdv ct), osl⟩ ∧ PySem.W.codeIn K cdv q = true ∧ PySem.W.keepIn K (.ref f) = true
theorem HasFn.of {K : PySem.W.Frag} {x q : Str} {st : Stmt} {f : Addr} {oc kV doc pm cdv ct : Value} {od an : Option Addr} {osl : Array (Option Value)} (l : K.lookup f = some ⟨oc, od, .func (PySem.W.fnOf x q (defArgs st) (defBody st) (defScope st) .none kV doc pm an cdv ct), osl⟩)
    (c : PySem.W.codeIn K cdv q = true) (k : PySem.W.keepIn K (.ref f) = true) : HasFn K x q st f := ⟨oc, kV, doc, pm, cdv, ct, od, an, osl, l, c, k⟩
theorem leaves_of {K : PySem.W.Frag} {a : Addr} {dd : Option Addr} {n : Nat} {sl : Array (Option Value)} {t1 t2 t3 t4 : Tok} (l : K.lookup a = some ⟨.type "tuple", dd, .seq #[.str "stay" t1, .str "step" t2, .str "at" t3, .str "off" t4] n, sl⟩) : KTup K a leavesV :=
  ⟨_, _, _, l, rfl, rfl, by show 4 ≤ sizeLine; decide, .cons ⟨_, rfl⟩ (.cons ⟨_, rfl⟩ (.cons ⟨_, rfl⟩ (.cons ⟨_, rfl⟩ .nil)))⟩
theorem HasFn.fn {K : PySem.W.Frag} {x q : Str} {st : Stmt} {f : Addr} (h : HasFn K x q st f) : ∃ fd, Fun K x q st f fd := by
  obtain ⟨oc, kV, doc, pm, cdv, ct, od, an, osl, l, c, k⟩ := h.ex
  exact ⟨_, fun_mk l c k⟩
section
variable {P : Program} {w : World} {K : PySem.W.Frag} {mg : Str → Option Value} {base : Heap}
theorem def_mk {x : Str} {st : Stmt} {f : Addr} {k : Nat} {ps : List Str} {sp : Sp} (h : HasFn K x x st f) (m : mg x = some (.ref f)) (b : ∀ fd, Fun K x x st f fd → Binds K fd ps []) (ok : ∀ fd, Fun K x x st f fd → FnOk P w K mg base CX0 k f fd ps sp) : Def P w K mg base k x ps sp := by
  obtain ⟨fd, F⟩ := h.fn
  exact ⟨f, fd, ok fd F, m, F.kp, b fd F⟩
theorem meth_mk {x q : Str} {st : Stmt} {f C : Addr} {k : Nat} {ps : List Str} {sp : Sp} (h : HasFn K x q st f) (a : PySem.W.findIn K (.ref C) x = some (some (.ref f))) (i : PySem.W.isFn K (.ref f) = true) (b : ∀ fd, Fun K x q st f fd → Binds K fd ps [])
    (ok : ∀ fd, Fun K x q st f fd → FnOk P w K mg base CX0 k f fd ps sp) : MDef P w K mg base k C x ps sp := by
  obtain ⟨fd, F⟩ := h.fn
  exact ⟨f, fd, ok fd F, ⟨a, i, F.kp⟩, b fd F⟩
theorem class_mk {cn : Str} {q : Str} {st : Stmt} {f C : Addr} {k : Nat} {sp : Sp} (h : HasFn K "__init__" q st f) (m : mg cn = some (.ref C)) (mk : PySem.W.makesIn K C = true) (a : PySem.W.findIn K (.ref C) "__init__" = some (some (.ref f))) (i : PySem.W.isFn K (.ref f) = true) (kc : PySem.W.keepIn K (.ref C) = true)
    (b : ∀ fd, Fun K "__init__" q st f fd → Binds K fd ["self"] []) (ok : ∀ fd, Fun K "__init__" q st f fd → FnOk P w K mg base CX0 k f fd ["self"] sp) : MkDef P w K mg base k cn C sp := by
  obtain ⟨fd, F⟩ := h.fn
  exact ⟨f, fd, ⟨mk, a, i, kc⟩, ok fd F, m, b fd F⟩
end
section
variable {P : Program} {w : World} {K : PySem.W.Frag} {mg : Str → Option Value} {base : Heap}
theorem all_mk {h : Heap} {fa f_machine_of f_holds_at f_is_step_by f_come_to f_stepped f_has_end f_goes f_l_cell_at f_l_draws f_l_knots f_l_words f_l_marks f_l_rows f_l_laid f_l_steps f_l_leaf f_l_part f_l_pattern f_l_ends f_l_fits f_l_still f_l_by f_l_gone f_l_ways f_l_is_machine f_l_is_stand f_l_is_name f_l_is_leaf f_l_great f_law C_Maker C_Web f_Maker_init f_Maker_fresh f_Maker_lay f_Maker_lay_row f_Web_init f_Web_ask_knot f_Web_lay_knot f_Web_lay_tie f_Web_put_knot f_Web_put_tie f_Web_marks f_Web_has_tie f_LEAVES : Addr} {t_KNOTS t_TIES : Tok} (X : K.In h) (N : h.Ns mainGlobals mg) (hfa : mg "law" = some (.ref fa))
    (a_machine_of : PySem.W.nsIn K mainGlobals "machine_of" = some (some (.ref f_machine_of)))
    (h_machine_of : HasFn K "machine_of" "machine_of" smachine_of f_machine_of)
    (a_holds_at : PySem.W.nsIn K mainGlobals "holds_at" = some (some (.ref f_holds_at)))
    (h_holds_at : HasFn K "holds_at" "holds_at" sholds_at f_holds_at)
    (a_is_step_by : PySem.W.nsIn K mainGlobals "is_step_by" = some (some (.ref f_is_step_by)))
    (h_is_step_by : HasFn K "is_step_by" "is_step_by" sis_step_by f_is_step_by)
    (a_come_to : PySem.W.nsIn K mainGlobals "come_to" = some (some (.ref f_come_to)))
    (h_come_to : HasFn K "come_to" "come_to" scome_to f_come_to)
    (a_stepped : PySem.W.nsIn K mainGlobals "stepped" = some (some (.ref f_stepped)))
    (h_stepped : HasFn K "stepped" "stepped" sstepped f_stepped)
    (a_has_end : PySem.W.nsIn K mainGlobals "has_end" = some (some (.ref f_has_end)))
    (h_has_end : HasFn K "has_end" "has_end" shas_end f_has_end)
    (a_goes : PySem.W.nsIn K mainGlobals "goes" = some (some (.ref f_goes)))
    (h_goes : HasFn K "goes" "goes" sgoes f_goes)
    (a_l_cell_at : PySem.W.nsIn K mainGlobals "_law_cell_at" = some (some (.ref f_l_cell_at)))
    (h_l_cell_at : HasFn K "_law_cell_at" "_law_cell_at" scell_at f_l_cell_at)
    (a_l_draws : PySem.W.nsIn K mainGlobals "_law_draws" = some (some (.ref f_l_draws)))
    (h_l_draws : HasFn K "_law_draws" "_law_draws" sdraws f_l_draws)
    (a_l_knots : PySem.W.nsIn K mainGlobals "_law_knots" = some (some (.ref f_l_knots)))
    (h_l_knots : HasFn K "_law_knots" "_law_knots" sknots f_l_knots)
    (a_l_words : PySem.W.nsIn K mainGlobals "_law_words" = some (some (.ref f_l_words)))
    (h_l_words : HasFn K "_law_words" "_law_words" swords f_l_words)
    (a_l_marks : PySem.W.nsIn K mainGlobals "_law_marks" = some (some (.ref f_l_marks)))
    (h_l_marks : HasFn K "_law_marks" "_law_marks" smarks f_l_marks)
    (a_l_rows : PySem.W.nsIn K mainGlobals "_law_rows" = some (some (.ref f_l_rows)))
    (h_l_rows : HasFn K "_law_rows" "_law_rows" srows f_l_rows)
    (a_l_laid : PySem.W.nsIn K mainGlobals "_law_laid" = some (some (.ref f_l_laid)))
    (h_l_laid : HasFn K "_law_laid" "_law_laid" slaid f_l_laid)
    (a_l_steps : PySem.W.nsIn K mainGlobals "_law_steps" = some (some (.ref f_l_steps)))
    (h_l_steps : HasFn K "_law_steps" "_law_steps" ssteps f_l_steps)
    (a_l_leaf : PySem.W.nsIn K mainGlobals "_law_leaf" = some (some (.ref f_l_leaf)))
    (h_l_leaf : HasFn K "_law_leaf" "_law_leaf" sleaf f_l_leaf)
    (a_l_part : PySem.W.nsIn K mainGlobals "_law_part" = some (some (.ref f_l_part)))
    (h_l_part : HasFn K "_law_part" "_law_part" spart f_l_part)
    (a_l_pattern : PySem.W.nsIn K mainGlobals "_law_pattern" = some (some (.ref f_l_pattern)))
    (h_l_pattern : HasFn K "_law_pattern" "_law_pattern" spattern f_l_pattern)
    (a_l_ends : PySem.W.nsIn K mainGlobals "_law_ends" = some (some (.ref f_l_ends)))
    (h_l_ends : HasFn K "_law_ends" "_law_ends" sends f_l_ends)
    (a_l_fits : PySem.W.nsIn K mainGlobals "_law_fits" = some (some (.ref f_l_fits)))
    (h_l_fits : HasFn K "_law_fits" "_law_fits" sfits f_l_fits)
    (a_l_still : PySem.W.nsIn K mainGlobals "_law_still" = some (some (.ref f_l_still)))
    (h_l_still : HasFn K "_law_still" "_law_still" sstill f_l_still)
    (a_l_by : PySem.W.nsIn K mainGlobals "_law_by" = some (some (.ref f_l_by)))
    (h_l_by : HasFn K "_law_by" "_law_by" sby f_l_by)
    (a_l_gone : PySem.W.nsIn K mainGlobals "_law_gone" = some (some (.ref f_l_gone)))
    (h_l_gone : HasFn K "_law_gone" "_law_gone" sgone f_l_gone)
    (a_l_ways : PySem.W.nsIn K mainGlobals "_law_ways" = some (some (.ref f_l_ways)))
    (h_l_ways : HasFn K "_law_ways" "_law_ways" sways f_l_ways)
    (a_l_is_machine : PySem.W.nsIn K mainGlobals "_law_is_machine" = some (some (.ref f_l_is_machine)))
    (h_l_is_machine : HasFn K "_law_is_machine" "_law_is_machine" sis_machine f_l_is_machine)
    (a_l_is_stand : PySem.W.nsIn K mainGlobals "_law_is_stand" = some (some (.ref f_l_is_stand)))
    (h_l_is_stand : HasFn K "_law_is_stand" "_law_is_stand" sis_stand f_l_is_stand)
    (a_l_is_name : PySem.W.nsIn K mainGlobals "_law_is_name" = some (some (.ref f_l_is_name)))
    (h_l_is_name : HasFn K "_law_is_name" "_law_is_name" sis_name f_l_is_name)
    (a_l_is_leaf : PySem.W.nsIn K mainGlobals "_law_is_leaf" = some (some (.ref f_l_is_leaf)))
    (h_l_is_leaf : HasFn K "_law_is_leaf" "_law_is_leaf" sis_leaf f_l_is_leaf)
    (a_l_great : PySem.W.nsIn K mainGlobals "_law_great" = some (some (.ref f_l_great)))
    (h_l_great : HasFn K "_law_great" "_law_great" sgreat f_l_great)
    (a_law : PySem.W.nsIn K mainGlobals "law" = some (some (.ref f_law)))
    (h_law : HasFn K "law" "law" slaw f_law)
    (a_Maker : PySem.W.nsIn K mainGlobals "Maker" = some (some (.ref C_Maker)))
    (pg_Maker : PySem.W.plainGet K C_Maker Str.empty = true)
    (hd_Maker : PySem.W.hasDictIn K C_Maker = true)
    (po_Maker : PySem.W.plainOver K C_Maker = true)
    (sa_Maker : PySem.W.findIn K (.ref C_Maker) "__setattr__" = some (some (.builtin "object.__setattr__")))
    (mk_Maker : PySem.W.makesIn K C_Maker = true)
    (kc_Maker : PySem.W.keepIn K (.ref C_Maker) = true)
    (n_size : PySem.W.findIn K (.ref C_Maker) "size" = some none)
    (n_laid : PySem.W.findIn K (.ref C_Maker) "laid" = some none)
    (a_Web : PySem.W.nsIn K mainGlobals "Web" = some (some (.ref C_Web)))
    (pg_Web : PySem.W.plainGet K C_Web Str.empty = true)
    (hd_Web : PySem.W.hasDictIn K C_Web = true)
    (po_Web : PySem.W.plainOver K C_Web = true)
    (sa_Web : PySem.W.findIn K (.ref C_Web) "__setattr__" = some (some (.builtin "object.__setattr__")))
    (mk_Web : PySem.W.makesIn K C_Web = true)
    (kc_Web : PySem.W.keepIn K (.ref C_Web) = true)
    (n_web_marks : PySem.W.findIn K (.ref C_Web) "web_marks" = some none)
    (n_web_ties : PySem.W.findIn K (.ref C_Web) "web_ties" = some none)
    (n_web_steps : PySem.W.findIn K (.ref C_Web) "web_steps" = some none)
    (a_Maker_init : PySem.W.findIn K (.ref C_Maker) "__init__" = some (some (.ref f_Maker_init)))
    (i_Maker_init : PySem.W.isFn K (.ref f_Maker_init) = true)
    (h_Maker_init : HasFn K "__init__" "Maker.__init__" sMaker_init f_Maker_init)
    (a_Maker_fresh : PySem.W.findIn K (.ref C_Maker) "fresh" = some (some (.ref f_Maker_fresh)))
    (i_Maker_fresh : PySem.W.isFn K (.ref f_Maker_fresh) = true)
    (h_Maker_fresh : HasFn K "fresh" "Maker.fresh" sMaker_fresh f_Maker_fresh)
    (a_Maker_lay : PySem.W.findIn K (.ref C_Maker) "lay" = some (some (.ref f_Maker_lay)))
    (i_Maker_lay : PySem.W.isFn K (.ref f_Maker_lay) = true)
    (h_Maker_lay : HasFn K "lay" "Maker.lay" sMaker_lay f_Maker_lay)
    (a_Maker_lay_row : PySem.W.findIn K (.ref C_Maker) "lay_row" = some (some (.ref f_Maker_lay_row)))
    (i_Maker_lay_row : PySem.W.isFn K (.ref f_Maker_lay_row) = true)
    (h_Maker_lay_row : HasFn K "lay_row" "Maker.lay_row" sMaker_lay_row f_Maker_lay_row)
    (a_Web_init : PySem.W.findIn K (.ref C_Web) "__init__" = some (some (.ref f_Web_init)))
    (i_Web_init : PySem.W.isFn K (.ref f_Web_init) = true)
    (h_Web_init : HasFn K "__init__" "Web.__init__" sWeb_init f_Web_init)
    (a_Web_ask_knot : PySem.W.findIn K (.ref C_Web) "ask_knot" = some (some (.ref f_Web_ask_knot)))
    (i_Web_ask_knot : PySem.W.isFn K (.ref f_Web_ask_knot) = true)
    (h_Web_ask_knot : HasFn K "ask_knot" "Web.ask_knot" sWeb_ask_knot f_Web_ask_knot)
    (a_Web_lay_knot : PySem.W.findIn K (.ref C_Web) "lay_knot" = some (some (.ref f_Web_lay_knot)))
    (i_Web_lay_knot : PySem.W.isFn K (.ref f_Web_lay_knot) = true)
    (h_Web_lay_knot : HasFn K "lay_knot" "Web.lay_knot" sWeb_lay_knot f_Web_lay_knot)
    (a_Web_lay_tie : PySem.W.findIn K (.ref C_Web) "lay_tie" = some (some (.ref f_Web_lay_tie)))
    (i_Web_lay_tie : PySem.W.isFn K (.ref f_Web_lay_tie) = true)
    (h_Web_lay_tie : HasFn K "lay_tie" "Web.lay_tie" sWeb_lay_tie f_Web_lay_tie)
    (a_Web_put_knot : PySem.W.findIn K (.ref C_Web) "put_knot" = some (some (.ref f_Web_put_knot)))
    (i_Web_put_knot : PySem.W.isFn K (.ref f_Web_put_knot) = true)
    (h_Web_put_knot : HasFn K "put_knot" "Web.put_knot" sWeb_put_knot f_Web_put_knot)
    (a_Web_put_tie : PySem.W.findIn K (.ref C_Web) "put_tie" = some (some (.ref f_Web_put_tie)))
    (i_Web_put_tie : PySem.W.isFn K (.ref f_Web_put_tie) = true)
    (h_Web_put_tie : HasFn K "put_tie" "Web.put_tie" sWeb_put_tie f_Web_put_tie)
    (a_Web_marks : PySem.W.findIn K (.ref C_Web) "marks" = some (some (.ref f_Web_marks)))
    (i_Web_marks : PySem.W.isFn K (.ref f_Web_marks) = true)
    (h_Web_marks : HasFn K "marks" "Web.marks" sWeb_marks f_Web_marks)
    (a_Web_has_tie : PySem.W.findIn K (.ref C_Web) "has_tie" = some (some (.ref f_Web_has_tie)))
    (i_Web_has_tie : PySem.W.isFn K (.ref f_Web_has_tie) = true)
    (h_Web_has_tie : HasFn K "has_tie" "Web.has_tie" sWeb_has_tie f_Web_has_tie)
    (z_len : PySem.W.nsIn K mainGlobals "len" = some none)
    (z_range : PySem.W.nsIn K mainGlobals "range" = some none)
    (z_tuple : PySem.W.nsIn K mainGlobals "tuple" = some none)
    (z_sorted : PySem.W.nsIn K mainGlobals "sorted" = some none)
    (z_list : PySem.W.nsIn K mainGlobals "list" = some none)
    (z_reversed : PySem.W.nsIn K mainGlobals "reversed" = some none)
    (z_min : PySem.W.nsIn K mainGlobals "min" = some none)
    (z_isinstance : PySem.W.nsIn K mainGlobals "isinstance" = some none)
    (z_int : PySem.W.nsIn K mainGlobals "int" = some none)
    (z_bool : PySem.W.nsIn K mainGlobals "bool" = some none)
    (z_str : PySem.W.nsIn K mainGlobals "str" = some none)
    (z_set : PySem.W.nsIn K mainGlobals "set" = some none)
    (a_KNOTS : PySem.W.nsIn K mainGlobals "MOST_KNOTS" = some (some (.int 40 t_KNOTS)))
    (a_TIES : PySem.W.nsIn K mainGlobals "MOST_TIES" = some (some (.int 300 t_TIES)))
    (a_LEAVES : PySem.W.nsIn K mainGlobals "LEAVES" = some (some (.ref f_LEAVES)))
    (h_LEAVES : KTup K f_LEAVES leavesV)
    : ∃ fd : FuncData, (∀ (s : Shared) (v : Value), BindsTo s fd ⟨[v], []⟩ [("_law_script", v)]) ∧ ∀ base : Heap, K.In base → base.Ns mainGlobals mg → FnOk P w K mg base CX0 24 fa fd ["_law_script"] (spLaw K) := by
  have e := hfa.symm.trans (PySem.W.mg_of X N a_law)
  cases e
  obtain ⟨fdL, FL⟩ := h_law.fn
  refine ⟨fdL, fun s v => ?_, fun base _ _ => ?_⟩
  · obtain ⟨oc, od, kV, doc, pm, an, cdv, ct, osl, rfl, lk, hcd⟩ := FL.ex
    exact .of_eq rfl
  have G : Gs K mg := ⟨PySem.W.mg_none_of X N z_len, PySem.W.mg_none_of X N z_range, PySem.W.mg_none_of X N z_tuple, PySem.W.mg_none_of X N z_sorted, PySem.W.mg_none_of X N z_list, PySem.W.mg_none_of X N z_reversed, PySem.W.mg_none_of X N z_min, PySem.W.mg_none_of X N z_isinstance, PySem.W.mg_none_of X N z_int, PySem.W.mg_none_of X N z_bool, PySem.W.mg_none_of X N z_str, PySem.W.mg_none_of X N z_set, ⟨_, PySem.W.mg_of X N a_LEAVES, h_LEAVES⟩, ⟨_, PySem.W.mg_of X N a_KNOTS⟩, ⟨_, PySem.W.mg_of X N a_TIES⟩⟩
  have ClMaker : MkC K C_Maker := ⟨⟨pg_Maker, hd_Maker, po_Maker, sa_Maker⟩, n_size, n_laid⟩
  have ClWeb : WebC K C_Web := ⟨⟨pg_Web, hd_Web, po_Web, sa_Web⟩, n_web_marks, n_web_ties, n_web_steps⟩
  have Dholds_at : Def P w K mg base 1 "holds_at" ["leaf", "marks"] (spHolds K) := def_mk h_holds_at (PySem.W.mg_of X N a_holds_at) (fun fd F => F.binds (ps := ["leaf", "marks"]) fun _ _ _ _ _ _ us hl => match us, hl with | [_, _], _ => rfl) fun fd F => ok_holds F
  have Dis_step_by : Def P w K mg base 1 "is_step_by" ["leaf", "side", "word"] (spStepBy K) := def_mk h_is_step_by (PySem.W.mg_of X N a_is_step_by) (fun fd F => F.binds (ps := ["leaf", "side", "word"]) fun _ _ _ _ _ _ us hl => match us, hl with | [_, _, _], _ => rfl) fun fd F => ok_stepBy F
  have Dcome_to : Def P w K mg base 2 "come_to" ["machine", "stands", "marks"] (spComeTo K) := def_mk h_come_to (PySem.W.mg_of X N a_come_to) (fun fd F => F.binds (ps := ["machine", "stands", "marks"]) fun _ _ _ _ _ _ us hl => match us, hl with | [_, _, _], _ => rfl) fun fd F => ok_comeTo F G Dholds_at
  have Dstepped : Def P w K mg base 2 "stepped" ["machine", "stands", "side", "word"] (spStepped K) := def_mk h_stepped (PySem.W.mg_of X N a_stepped) (fun fd F => F.binds (ps := ["machine", "stands", "side", "word"]) fun _ _ _ _ _ _ us hl => match us, hl with | [_, _, _, _], _ => rfl) fun fd F => ok_stepped F G Dis_step_by
  have Dhas_end : Def P w K mg base 1 "has_end" ["machine", "stands"] (spHasEnd K) := def_mk h_has_end (PySem.W.mg_of X N a_has_end) (fun fd F => F.binds (ps := ["machine", "stands"]) fun _ _ _ _ _ _ us hl => match us, hl with | [_, _], _ => rfl) fun fd F => ok_hasEnd F
  have DWeb_ask_knot : MDef P w K mg base 1 C_Web "ask_knot" ["self", "name"] (spAsk C_Web) := meth_mk h_Web_ask_knot a_Web_ask_knot i_Web_ask_knot (fun fd F => F.binds (ps := ["self", "name"]) fun _ _ _ _ _ _ us hl => match us, hl with | [_, _], _ => rfl) fun fd F => ok_ask F ClWeb
  have DWeb_marks : MDef P w K mg base 2 C_Web "marks" ["self", "knot"] (spMarks C_Web) := meth_mk h_Web_marks a_Web_marks i_Web_marks (fun fd F => F.binds (ps := ["self", "knot"]) fun _ _ _ _ _ _ us hl => match us, hl with | [_, _], _ => rfl) fun fd F => ok_marks F G ClWeb DWeb_ask_knot
  have Dgoes : Def P w K mg base 3 "goes" ["web", "machine", "way"] (spGoes K C_Web) := def_mk h_goes (PySem.W.mg_of X N a_goes) (fun fd F => F.binds (ps := ["web", "machine", "way"]) fun _ _ _ _ _ _ us hl => match us, hl with | [_, _, _], _ => rfl) fun fd F => ok_goes F G ClWeb DWeb_marks Dcome_to Dstepped Dhas_end
  have MkWeb : MkDef P w K mg base 1 "Web" C_Web (spWInit C_Web) := class_mk h_Web_init (PySem.W.mg_of X N a_Web) mk_Web a_Web_init i_Web_init kc_Web (fun fd F => F.binds (ps := ["self"]) fun _ _ _ _ _ _ us hl => match us, hl with | [_], _ => rfl) fun fd F => ok_wInit F ClWeb
  have DWeb_lay_knot : MDef P w K mg base 1 C_Web "lay_knot" ["self", "name", "marks"] (spLayKnot K C_Web) := meth_mk h_Web_lay_knot a_Web_lay_knot i_Web_lay_knot (fun fd F => F.binds (ps := ["self", "name", "marks"]) fun _ _ _ _ _ _ us hl => match us, hl with | [_, _, _], _ => rfl) fun fd F => ok_layKnot F G ClWeb
  have DWeb_put_knot : MDef P w K mg base 2 C_Web "put_knot" ["self", "name", "marks"] (spPutKnot K C_Web) := meth_mk h_Web_put_knot a_Web_put_knot i_Web_put_knot (fun fd F => F.binds (ps := ["self", "name", "marks"]) fun _ _ _ _ _ _ us hl => match us, hl with | [_, _, _], _ => rfl) fun fd F => ok_putKnot F G ClWeb DWeb_lay_knot
  have DWeb_has_tie : MDef P w K mg base 1 C_Web "has_tie" ["self", "one", "word", "other"] (spHasTie C_Web) := meth_mk h_Web_has_tie a_Web_has_tie i_Web_has_tie (fun fd F => F.binds (ps := ["self", "one", "word", "other"]) fun _ _ _ _ _ _ us hl => match us, hl with | [_, _, _, _], _ => rfl) fun fd F => ok_hasTie F ClWeb
  have DWeb_lay_tie : MDef P w K mg base 1 C_Web "lay_tie" ["self", "tie"] (spLayTie C_Web) := meth_mk h_Web_lay_tie a_Web_lay_tie i_Web_lay_tie (fun fd F => F.binds (ps := ["self", "tie"]) fun _ _ _ _ _ _ us hl => match us, hl with | [_, _], _ => rfl) fun fd F => ok_layTie F ClWeb
  have DWeb_put_tie : MDef P w K mg base 2 C_Web "put_tie" ["self", "one", "word", "other"] (spPutTie C_Web) := meth_mk h_Web_put_tie a_Web_put_tie i_Web_put_tie (fun fd F => F.binds (ps := ["self", "one", "word", "other"]) fun _ _ _ _ _ _ us hl => match us, hl with | [_, _, _, _], _ => rfl) fun fd F => ok_putTie F G ClWeb DWeb_ask_knot DWeb_has_tie DWeb_lay_tie
  have D_law_cell_at : Def P w K mg base 1 "_law_cell_at" ["_law_script", "_law_k"] (spCellAt K) := def_mk h_l_cell_at (PySem.W.mg_of X N a_l_cell_at) (fun fd F => F.binds (ps := ["_law_script", "_law_k"]) fun _ _ _ _ _ _ us hl => match us, hl with | [_, _], _ => rfl) fun fd F => ok_cellAt F G
  have D_law_draws : Def P w K mg base 1 "_law_draws" ["_law_cell", "_law_sizes"] (spDraws K) := def_mk h_l_draws (PySem.W.mg_of X N a_l_draws) (fun fd F => F.binds (ps := ["_law_cell", "_law_sizes"]) fun _ _ _ _ _ _ us hl => match us, hl with | [_, _], _ => rfl) fun fd F => ok_draws F G
  have D_law_knots : Def P w K mg base 1 "_law_knots" [] (spTexts knotsL) := def_mk h_l_knots (PySem.W.mg_of X N a_l_knots) (fun fd F => F.binds (ps := []) fun _ _ _ _ _ _ us hl => match us, hl with | [], _ => rfl) fun fd F => ok_knots F
  have D_law_words : Def P w K mg base 1 "_law_words" [] (spTexts wordsL) := def_mk h_l_words (PySem.W.mg_of X N a_l_words) (fun fd F => F.binds (ps := []) fun _ _ _ _ _ _ us hl => match us, hl with | [], _ => rfl) fun fd F => ok_words F
  have D_law_marks : Def P w K mg base 1 "_law_marks" [] (spTexts marksL) := def_mk h_l_marks (PySem.W.mg_of X N a_l_marks) (fun fd F => F.binds (ps := []) fun _ _ _ _ _ _ us hl => match us, hl with | [], _ => rfl) fun fd F => ok_lmarks F
  have D_law_rows : Def P w K mg base 2 "_law_rows" ["_law_cell", "_law_most"] (spRows K) := def_mk h_l_rows (PySem.W.mg_of X N a_l_rows) (fun fd F => F.binds (ps := ["_law_cell", "_law_most"]) fun _ _ _ _ _ _ us hl => match us, hl with | [_, _], _ => rfl) fun fd F => ok_rows F G D_law_draws D_law_knots D_law_words D_law_marks
  have D_law_laid : Def P w K mg base 3 "_law_laid" ["_law_rows_here"] (spLaid K C_Web) := def_mk h_l_laid (PySem.W.mg_of X N a_l_laid) (fun fd F => F.binds (ps := ["_law_rows_here"]) fun _ _ _ _ _ _ us hl => match us, hl with | [_], _ => rfl) fun fd F => ok_laid F G ClWeb MkWeb DWeb_put_knot DWeb_put_tie
  have D_law_steps : Def P w K mg base 1 "_law_steps" ["_law_rows_here", "_law_knot"] (spSteps K) := def_mk h_l_steps (PySem.W.mg_of X N a_l_steps) (fun fd F => F.binds (ps := ["_law_rows_here", "_law_knot"]) fun _ _ _ _ _ _ us hl => match us, hl with | [_, _], _ => rfl) fun fd F => ok_steps F G
  have D_law_ways : Def P w K mg base 2 "_law_ways" ["_law_rows_here", "_law_knot", "_law_most", "_law_cap"] (spWays K) := def_mk h_l_ways (PySem.W.mg_of X N a_l_ways) (fun fd F => F.binds (ps := ["_law_rows_here", "_law_knot", "_law_most", "_law_cap"]) fun _ _ _ _ _ _ us hl => match us, hl with | [_, _, _, _], _ => rfl) fun fd F => ok_ways F G D_law_steps
  have D_law_leaf : Def P w K mg base 2 "_law_leaf" ["_law_way", "_law_number"] (spLeaf K) := def_mk h_l_leaf (PySem.W.mg_of X N a_l_leaf) (fun fd F => F.binds (ps := ["_law_way", "_law_number"]) fun _ _ _ _ _ _ us hl => match us, hl with | [_, _], _ => rfl) fun fd F => ok_leaf F D_law_words D_law_marks
  have P0 : Def P w K mg base 2 "_law_part" ["_law_ds", "_law_at", "_law_deep"] (spPart K 0) := def_mk h_l_part (PySem.W.mg_of X N a_l_part) (fun fd F => F.binds (ps := ["_law_ds", "_law_at", "_law_deep"]) fun _ _ _ _ _ _ us hl => match us, hl with | [_, _, _], _ => rfl) fun fd F => fnOk_none fun vs H Q E z => by obtain ⟨_, _, _, _, _, z, _⟩ := z; exact absurd z (Nat.not_lt_zero _)
  have P1 : Def P w K mg base 3 "_law_part" ["_law_ds", "_law_at", "_law_deep"] (spPart K 1) := def_mk h_l_part (PySem.W.mg_of X N a_l_part) (fun fd F => F.binds (ps := ["_law_ds", "_law_at", "_law_deep"]) fun _ _ _ _ _ _ us hl => match us, hl with | [_, _, _], _ => rfl) fun fd F => ok_part (by decide) F G D_law_leaf P0
  have P2 : Def P w K mg base 4 "_law_part" ["_law_ds", "_law_at", "_law_deep"] (spPart K 2) := def_mk h_l_part (PySem.W.mg_of X N a_l_part) (fun fd F => F.binds (ps := ["_law_ds", "_law_at", "_law_deep"]) fun _ _ _ _ _ _ us hl => match us, hl with | [_, _, _], _ => rfl) fun fd F => ok_part (by decide) F G D_law_leaf P1
  have P3 : Def P w K mg base 5 "_law_part" ["_law_ds", "_law_at", "_law_deep"] (spPart K 3) := def_mk h_l_part (PySem.W.mg_of X N a_l_part) (fun fd F => F.binds (ps := ["_law_ds", "_law_at", "_law_deep"]) fun _ _ _ _ _ _ us hl => match us, hl with | [_, _, _], _ => rfl) fun fd F => ok_part (by decide) F G D_law_leaf P2
  have P4 : Def P w K mg base 6 "_law_part" ["_law_ds", "_law_at", "_law_deep"] (spPart K 4) := def_mk h_l_part (PySem.W.mg_of X N a_l_part) (fun fd F => F.binds (ps := ["_law_ds", "_law_at", "_law_deep"]) fun _ _ _ _ _ _ us hl => match us, hl with | [_, _, _], _ => rfl) fun fd F => ok_part (by decide) F G D_law_leaf P3
  have D_law_pattern : Def P w K mg base 7 "_law_pattern" ["_law_cell", "_law_deep"] (spPattern K) := def_mk h_l_pattern (PySem.W.mg_of X N a_l_pattern) (fun fd F => F.binds (ps := ["_law_cell", "_law_deep"]) fun _ _ _ _ _ _ us hl => match us, hl with | [_, _], _ => rfl) fun fd F => ok_pattern F D_law_draws P4
  have D_law_great : Def P w K mg base 3 "_law_great" ["_law_cell"] (spGreat K) := def_mk h_l_great (PySem.W.mg_of X N a_l_great) (fun fd F => F.binds (ps := ["_law_cell"]) fun _ _ _ _ _ _ us hl => match us, hl with | [_], _ => rfl) fun fd F => ok_great F G D_law_draws D_law_leaf
  have dp : ∀ p : Pt, ¬ dps p ≤ 0 := fun p => by cases p <;> simp only [dps] <;> omega
  have E0_ : Def P w K mg base 1 "_law_ends" ["_law_pattern_here", "_law_steps_here", "_law_marks_here", "_law_begins"] (spEnds K 0) := def_mk h_l_ends (PySem.W.mg_of X N a_l_ends) (fun fd F => F.binds (ps := ["_law_pattern_here", "_law_steps_here", "_law_marks_here", "_law_begins"]) fun _ _ _ _ _ _ us hl => match us, hl with | [_, _, _, _], _ => rfl) fun fd F => fnOk_none fun vs H Q E z => by obtain ⟨_, _, _, _, _, _, _, _, _, _, _, _, z, _⟩ := z; exact dp _ z
  have E1_ : Def P w K mg base 2 "_law_ends" ["_law_pattern_here", "_law_steps_here", "_law_marks_here", "_law_begins"] (spEnds K 1) := def_mk h_l_ends (PySem.W.mg_of X N a_l_ends) (fun fd F => F.binds (ps := ["_law_pattern_here", "_law_steps_here", "_law_marks_here", "_law_begins"]) fun _ _ _ _ _ _ us hl => match us, hl with | [_, _, _, _], _ => rfl) fun fd F => ok_ends F G E0_
  have E2_ : Def P w K mg base 3 "_law_ends" ["_law_pattern_here", "_law_steps_here", "_law_marks_here", "_law_begins"] (spEnds K 2) := def_mk h_l_ends (PySem.W.mg_of X N a_l_ends) (fun fd F => F.binds (ps := ["_law_pattern_here", "_law_steps_here", "_law_marks_here", "_law_begins"]) fun _ _ _ _ _ _ us hl => match us, hl with | [_, _, _, _], _ => rfl) fun fd F => ok_ends F G E1_
  have E3_ : Def P w K mg base 4 "_law_ends" ["_law_pattern_here", "_law_steps_here", "_law_marks_here", "_law_begins"] (spEnds K 3) := def_mk h_l_ends (PySem.W.mg_of X N a_l_ends) (fun fd F => F.binds (ps := ["_law_pattern_here", "_law_steps_here", "_law_marks_here", "_law_begins"]) fun _ _ _ _ _ _ us hl => match us, hl with | [_, _, _, _], _ => rfl) fun fd F => ok_ends F G E2_
  have E4_ : Def P w K mg base 5 "_law_ends" ["_law_pattern_here", "_law_steps_here", "_law_marks_here", "_law_begins"] (spEnds K 4) := def_mk h_l_ends (PySem.W.mg_of X N a_l_ends) (fun fd F => F.binds (ps := ["_law_pattern_here", "_law_steps_here", "_law_marks_here", "_law_begins"]) fun _ _ _ _ _ _ us hl => match us, hl with | [_, _, _, _], _ => rfl) fun fd F => ok_ends F G E3_
  have E5_ : Def P w K mg base 6 "_law_ends" ["_law_pattern_here", "_law_steps_here", "_law_marks_here", "_law_begins"] (spEnds K 5) := def_mk h_l_ends (PySem.W.mg_of X N a_l_ends) (fun fd F => F.binds (ps := ["_law_pattern_here", "_law_steps_here", "_law_marks_here", "_law_begins"]) fun _ _ _ _ _ _ us hl => match us, hl with | [_, _, _, _], _ => rfl) fun fd F => ok_ends F G E4_
  have E6_ : Def P w K mg base 7 "_law_ends" ["_law_pattern_here", "_law_steps_here", "_law_marks_here", "_law_begins"] (spEnds K 6) := def_mk h_l_ends (PySem.W.mg_of X N a_l_ends) (fun fd F => F.binds (ps := ["_law_pattern_here", "_law_steps_here", "_law_marks_here", "_law_begins"]) fun _ _ _ _ _ _ us hl => match us, hl with | [_, _, _, _], _ => rfl) fun fd F => ok_ends F G E5_
  have E7_ : Def P w K mg base 8 "_law_ends" ["_law_pattern_here", "_law_steps_here", "_law_marks_here", "_law_begins"] (spEnds K 7) := def_mk h_l_ends (PySem.W.mg_of X N a_l_ends) (fun fd F => F.binds (ps := ["_law_pattern_here", "_law_steps_here", "_law_marks_here", "_law_begins"]) fun _ _ _ _ _ _ us hl => match us, hl with | [_, _, _, _], _ => rfl) fun fd F => ok_ends F G E6_
  have E8_ : Def P w K mg base 9 "_law_ends" ["_law_pattern_here", "_law_steps_here", "_law_marks_here", "_law_begins"] (spEnds K 8) := def_mk h_l_ends (PySem.W.mg_of X N a_l_ends) (fun fd F => F.binds (ps := ["_law_pattern_here", "_law_steps_here", "_law_marks_here", "_law_begins"]) fun _ _ _ _ _ _ us hl => match us, hl with | [_, _, _, _], _ => rfl) fun fd F => ok_ends F G E7_
  have E9_ : Def P w K mg base 10 "_law_ends" ["_law_pattern_here", "_law_steps_here", "_law_marks_here", "_law_begins"] (spEnds K 9) := def_mk h_l_ends (PySem.W.mg_of X N a_l_ends) (fun fd F => F.binds (ps := ["_law_pattern_here", "_law_steps_here", "_law_marks_here", "_law_begins"]) fun _ _ _ _ _ _ us hl => match us, hl with | [_, _, _, _], _ => rfl) fun fd F => ok_ends F G E8_
  have E10_ : Def P w K mg base 11 "_law_ends" ["_law_pattern_here", "_law_steps_here", "_law_marks_here", "_law_begins"] (spEnds K 10) := def_mk h_l_ends (PySem.W.mg_of X N a_l_ends) (fun fd F => F.binds (ps := ["_law_pattern_here", "_law_steps_here", "_law_marks_here", "_law_begins"]) fun _ _ _ _ _ _ us hl => match us, hl with | [_, _, _, _], _ => rfl) fun fd F => ok_ends F G E9_
  have D_law_fits : Def P w K mg base 12 "_law_fits" ["_law_rows_here", "_law_pattern_here", "_law_way"] (spFits K) := def_mk h_l_fits (PySem.W.mg_of X N a_l_fits) (fun fd F => F.binds (ps := ["_law_rows_here", "_law_pattern_here", "_law_way"]) fun _ _ _ _ _ _ us hl => match us, hl with | [_, _, _], _ => rfl) fun fd F => ok_fits F G E10_
  have D_law_still : Def P w K mg base 1 "_law_still" ["_law_machine", "_law_stands", "_law_marks_here"] (spStill K) := def_mk h_l_still (PySem.W.mg_of X N a_l_still) (fun fd F => F.binds (ps := ["_law_machine", "_law_stands", "_law_marks_here"]) fun _ _ _ _ _ _ us hl => match us, hl with | [_, _, _], _ => rfl) fun fd F => ok_still F G
  have D_law_by : Def P w K mg base 1 "_law_by" ["_law_machine", "_law_stands", "_law_side", "_law_word"] (spBy K) := def_mk h_l_by (PySem.W.mg_of X N a_l_by) (fun fd F => F.binds (ps := ["_law_machine", "_law_stands", "_law_side", "_law_word"]) fun _ _ _ _ _ _ us hl => match us, hl with | [_, _, _, _], _ => rfl) fun fd F => ok_by F
  have D_law_gone : Def P w K mg base 2 "_law_gone" ["_law_rows_here", "_law_machine", "_law_way"] (spGone K) := def_mk h_l_gone (PySem.W.mg_of X N a_l_gone) (fun fd F => F.binds (ps := ["_law_rows_here", "_law_machine", "_law_way"]) fun _ _ _ _ _ _ us hl => match us, hl with | [_, _, _], _ => rfl) fun fd F => ok_gone F D_law_still D_law_by
  have MkMaker : MkDef P w K mg base 1 "Maker" C_Maker (spMInit w K C_Maker) := class_mk h_Maker_init (PySem.W.mg_of X N a_Maker) mk_Maker a_Maker_init i_Maker_init kc_Maker (fun fd F => F.binds (ps := ["self"]) fun _ _ _ _ _ _ us hl => match us, hl with | [_], _ => rfl) fun fd F => ok_mInit F ClMaker
  have DMaker_fresh : MDef P w K mg base 1 C_Maker "fresh" ["self"] (spFresh w K C_Maker) := meth_mk h_Maker_fresh a_Maker_fresh i_Maker_fresh (fun fd F => F.binds (ps := ["self"]) fun _ _ _ _ _ _ us hl => match us, hl with | [_], _ => rfl) fun fd F => ok_fresh F ClMaker
  have L0 : MDef P w K mg base 1 C_Maker "lay" ["self", "pattern", "one", "other"] (spLay w K C_Maker 0) := meth_mk h_Maker_lay a_Maker_lay i_Maker_lay (fun fd F => F.binds (ps := ["self", "pattern", "one", "other"]) fun _ _ _ _ _ _ us hl => match us, hl with | [_, _, _, _], _ => rfl) fun fd F => fnOk_none fun vs H Q E z => by obtain ⟨_, _, _, _, _, _, _, _, _, _, _, _, z, _⟩ := z; exact dp _ z
  have R0 : MDef P w K mg base 2 C_Maker "lay_row" ["self", "parts", "one", "other"] (spRow w K C_Maker 0) := meth_mk h_Maker_lay_row a_Maker_lay_row i_Maker_lay_row (fun fd F => F.binds (ps := ["self", "parts", "one", "other"]) fun _ _ _ _ _ _ us hl => match us, hl with | [_, _, _, _], _ => rfl) fun fd F => ok_row (by decide) F G ClMaker DMaker_fresh L0
  have L1 : MDef P w K mg base 3 C_Maker "lay" ["self", "pattern", "one", "other"] (spLay w K C_Maker 1) := meth_mk h_Maker_lay a_Maker_lay i_Maker_lay (fun fd F => F.binds (ps := ["self", "pattern", "one", "other"]) fun _ _ _ _ _ _ us hl => match us, hl with | [_, _, _, _], _ => rfl) fun fd F => ok_lay (by decide) F G ClMaker DMaker_fresh L0 R0
  have R1 : MDef P w K mg base 4 C_Maker "lay_row" ["self", "parts", "one", "other"] (spRow w K C_Maker 1) := meth_mk h_Maker_lay_row a_Maker_lay_row i_Maker_lay_row (fun fd F => F.binds (ps := ["self", "parts", "one", "other"]) fun _ _ _ _ _ _ us hl => match us, hl with | [_, _, _, _], _ => rfl) fun fd F => ok_row (by decide) F G ClMaker DMaker_fresh L1
  have L2 : MDef P w K mg base 5 C_Maker "lay" ["self", "pattern", "one", "other"] (spLay w K C_Maker 2) := meth_mk h_Maker_lay a_Maker_lay i_Maker_lay (fun fd F => F.binds (ps := ["self", "pattern", "one", "other"]) fun _ _ _ _ _ _ us hl => match us, hl with | [_, _, _, _], _ => rfl) fun fd F => ok_lay (by decide) F G ClMaker DMaker_fresh L1 R1
  have R2 : MDef P w K mg base 6 C_Maker "lay_row" ["self", "parts", "one", "other"] (spRow w K C_Maker 2) := meth_mk h_Maker_lay_row a_Maker_lay_row i_Maker_lay_row (fun fd F => F.binds (ps := ["self", "parts", "one", "other"]) fun _ _ _ _ _ _ us hl => match us, hl with | [_, _, _, _], _ => rfl) fun fd F => ok_row (by decide) F G ClMaker DMaker_fresh L2
  have L3 : MDef P w K mg base 7 C_Maker "lay" ["self", "pattern", "one", "other"] (spLay w K C_Maker 3) := meth_mk h_Maker_lay a_Maker_lay i_Maker_lay (fun fd F => F.binds (ps := ["self", "pattern", "one", "other"]) fun _ _ _ _ _ _ us hl => match us, hl with | [_, _, _, _], _ => rfl) fun fd F => ok_lay (by decide) F G ClMaker DMaker_fresh L2 R2
  have R3 : MDef P w K mg base 8 C_Maker "lay_row" ["self", "parts", "one", "other"] (spRow w K C_Maker 3) := meth_mk h_Maker_lay_row a_Maker_lay_row i_Maker_lay_row (fun fd F => F.binds (ps := ["self", "parts", "one", "other"]) fun _ _ _ _ _ _ us hl => match us, hl with | [_, _, _, _], _ => rfl) fun fd F => ok_row (by decide) F G ClMaker DMaker_fresh L3
  have L4 : MDef P w K mg base 9 C_Maker "lay" ["self", "pattern", "one", "other"] (spLay w K C_Maker 4) := meth_mk h_Maker_lay a_Maker_lay i_Maker_lay (fun fd F => F.binds (ps := ["self", "pattern", "one", "other"]) fun _ _ _ _ _ _ us hl => match us, hl with | [_, _, _, _], _ => rfl) fun fd F => ok_lay (by decide) F G ClMaker DMaker_fresh L3 R3
  have R4 : MDef P w K mg base 10 C_Maker "lay_row" ["self", "parts", "one", "other"] (spRow w K C_Maker 4) := meth_mk h_Maker_lay_row a_Maker_lay_row i_Maker_lay_row (fun fd F => F.binds (ps := ["self", "parts", "one", "other"]) fun _ _ _ _ _ _ us hl => match us, hl with | [_, _, _, _], _ => rfl) fun fd F => ok_row (by decide) F G ClMaker DMaker_fresh L4
  have L5 : MDef P w K mg base 11 C_Maker "lay" ["self", "pattern", "one", "other"] (spLay w K C_Maker 5) := meth_mk h_Maker_lay a_Maker_lay i_Maker_lay (fun fd F => F.binds (ps := ["self", "pattern", "one", "other"]) fun _ _ _ _ _ _ us hl => match us, hl with | [_, _, _, _], _ => rfl) fun fd F => ok_lay (by decide) F G ClMaker DMaker_fresh L4 R4
  have R5 : MDef P w K mg base 12 C_Maker "lay_row" ["self", "parts", "one", "other"] (spRow w K C_Maker 5) := meth_mk h_Maker_lay_row a_Maker_lay_row i_Maker_lay_row (fun fd F => F.binds (ps := ["self", "parts", "one", "other"]) fun _ _ _ _ _ _ us hl => match us, hl with | [_, _, _, _], _ => rfl) fun fd F => ok_row (by decide) F G ClMaker DMaker_fresh L5
  have L6 : MDef P w K mg base 13 C_Maker "lay" ["self", "pattern", "one", "other"] (spLay w K C_Maker 6) := meth_mk h_Maker_lay a_Maker_lay i_Maker_lay (fun fd F => F.binds (ps := ["self", "pattern", "one", "other"]) fun _ _ _ _ _ _ us hl => match us, hl with | [_, _, _, _], _ => rfl) fun fd F => ok_lay (by decide) F G ClMaker DMaker_fresh L5 R5
  have R6 : MDef P w K mg base 14 C_Maker "lay_row" ["self", "parts", "one", "other"] (spRow w K C_Maker 6) := meth_mk h_Maker_lay_row a_Maker_lay_row i_Maker_lay_row (fun fd F => F.binds (ps := ["self", "parts", "one", "other"]) fun _ _ _ _ _ _ us hl => match us, hl with | [_, _, _, _], _ => rfl) fun fd F => ok_row (by decide) F G ClMaker DMaker_fresh L6
  have L7 : MDef P w K mg base 15 C_Maker "lay" ["self", "pattern", "one", "other"] (spLay w K C_Maker 7) := meth_mk h_Maker_lay a_Maker_lay i_Maker_lay (fun fd F => F.binds (ps := ["self", "pattern", "one", "other"]) fun _ _ _ _ _ _ us hl => match us, hl with | [_, _, _, _], _ => rfl) fun fd F => ok_lay (by decide) F G ClMaker DMaker_fresh L6 R6
  have R7 : MDef P w K mg base 16 C_Maker "lay_row" ["self", "parts", "one", "other"] (spRow w K C_Maker 7) := meth_mk h_Maker_lay_row a_Maker_lay_row i_Maker_lay_row (fun fd F => F.binds (ps := ["self", "parts", "one", "other"]) fun _ _ _ _ _ _ us hl => match us, hl with | [_, _, _, _], _ => rfl) fun fd F => ok_row (by decide) F G ClMaker DMaker_fresh L7
  have L8 : MDef P w K mg base 17 C_Maker "lay" ["self", "pattern", "one", "other"] (spLay w K C_Maker 8) := meth_mk h_Maker_lay a_Maker_lay i_Maker_lay (fun fd F => F.binds (ps := ["self", "pattern", "one", "other"]) fun _ _ _ _ _ _ us hl => match us, hl with | [_, _, _, _], _ => rfl) fun fd F => ok_lay (by decide) F G ClMaker DMaker_fresh L7 R7
  have R8 : MDef P w K mg base 18 C_Maker "lay_row" ["self", "parts", "one", "other"] (spRow w K C_Maker 8) := meth_mk h_Maker_lay_row a_Maker_lay_row i_Maker_lay_row (fun fd F => F.binds (ps := ["self", "parts", "one", "other"]) fun _ _ _ _ _ _ us hl => match us, hl with | [_, _, _, _], _ => rfl) fun fd F => ok_row (by decide) F G ClMaker DMaker_fresh L8
  have L9 : MDef P w K mg base 19 C_Maker "lay" ["self", "pattern", "one", "other"] (spLay w K C_Maker 9) := meth_mk h_Maker_lay a_Maker_lay i_Maker_lay (fun fd F => F.binds (ps := ["self", "pattern", "one", "other"]) fun _ _ _ _ _ _ us hl => match us, hl with | [_, _, _, _], _ => rfl) fun fd F => ok_lay (by decide) F G ClMaker DMaker_fresh L8 R8
  have R9 : MDef P w K mg base 20 C_Maker "lay_row" ["self", "parts", "one", "other"] (spRow w K C_Maker 9) := meth_mk h_Maker_lay_row a_Maker_lay_row i_Maker_lay_row (fun fd F => F.binds (ps := ["self", "parts", "one", "other"]) fun _ _ _ _ _ _ us hl => match us, hl with | [_, _, _, _], _ => rfl) fun fd F => ok_row (by decide) F G ClMaker DMaker_fresh L9
  have L10 : MDef P w K mg base 21 C_Maker "lay" ["self", "pattern", "one", "other"] (spLay w K C_Maker 10) := meth_mk h_Maker_lay a_Maker_lay i_Maker_lay (fun fd F => F.binds (ps := ["self", "pattern", "one", "other"]) fun _ _ _ _ _ _ us hl => match us, hl with | [_, _, _, _], _ => rfl) fun fd F => ok_lay (by decide) F G ClMaker DMaker_fresh L9 R9
  have Dmachine_of : Def P w K mg base 23 "machine_of" ["pattern"] (spMach K) := def_mk h_machine_of (PySem.W.mg_of X N a_machine_of) (fun fd F => F.binds (ps := ["pattern"]) fun _ _ _ _ _ _ us hl => match us, hl with | [_], _ => rfl) fun fd F => ok_machine (by decide) F G ClMaker MkMaker L10
  have D_law_is_stand : Def P w K mg base 1 "_law_is_stand" ["_law_thing", "_law_many"] spIsStand := def_mk h_l_is_stand (PySem.W.mg_of X N a_l_is_stand) (fun fd F => F.binds (ps := ["_law_thing", "_law_many"]) fun _ _ _ _ _ _ us hl => match us, hl with | [_, _], _ => rfl) fun fd F => ok_isStand F G
  have D_law_is_name : Def P w K mg base 1 "_law_is_name" ["_law_thing"] spIsName := def_mk h_l_is_name (PySem.W.mg_of X N a_l_is_name) (fun fd F => F.binds (ps := ["_law_thing"]) fun _ _ _ _ _ _ us hl => match us, hl with | [_], _ => rfl) fun fd F => ok_isName F G
  have D_law_is_leaf : Def P w K mg base 2 "_law_is_leaf" ["_law_thing"] (spIsLeaf K) := def_mk h_l_is_leaf (PySem.W.mg_of X N a_l_is_leaf) (fun fd F => F.binds (ps := ["_law_thing"]) fun _ _ _ _ _ _ us hl => match us, hl with | [_], _ => rfl) fun fd F => ok_isLeaf F G D_law_is_name
  have D_law_is_machine : Def P w K mg base 3 "_law_is_machine" ["_law_thing", "_law_most"] (spIsMach K) := def_mk h_l_is_machine (PySem.W.mg_of X N a_l_is_machine) (fun fd F => F.binds (ps := ["_law_thing", "_law_most"]) fun _ _ _ _ _ _ us hl => match us, hl with | [_, _], _ => rfl) fun fd F => ok_isMachine F G D_law_is_stand D_law_is_leaf
  exact ok_law FL G (D_law_cell_at.mono (by decide)) (D_law_pattern.mono (by decide)) (D_law_great.mono (by decide)) (Dmachine_of.mono (by decide)) (D_law_is_machine.mono (by decide)) (D_law_rows.mono (by decide)) (D_law_laid.mono (by decide)) (D_law_ways.mono (by decide)) (D_law_fits.mono (by decide)) (Dgoes.mono (by decide)) (D_law_gone.mono (by decide))
end
theorem walk {l : PySem.W.OpenLaw} {q : Program} {loose : List Str} {XP : (Str → Option Value) → Heap → Prop} {YP : World → Heap → Prop} {d : DefRec} {K : Params → PySem.W.Frag} (hn : l.most = some 63) (hdf : d.params.defaults = [])
    (hY : ∀ (w : World) (h : Heap), YP w h → (K w.params).In h)
    (F : ∀ (w : World) (mg : Str → Option Value) (fa : Addr) (h : Heap), (K w.params).In h → h.Ns mainGlobals mg → mg d.name = some (.ref fa) →
      ∃ fd : FuncData, (∀ (s : Shared) (u : Value), BindsTo s fd ⟨[u], []⟩ [("_law_script", u)]) ∧ ∀ base : Heap, (K w.params).In base → base.Ns mainGlobals mg → FnOk l.prog w (K w.params) mg base CX0 24 fa fd ["_law_script"] (spLaw (K w.params))) :
    PySem.W.WalkO q loose XP YP l.row.toRowW d [] (fun f vs => PySem.call f vs) :=
  L2.walk_of (n := 63) (k := 24) (x := "_law_script") (CX := fun _ => CX0) (sp := fun w => spLaw (K w.params)) hn (by decide) hdf ⟨rfl, by decide, by decide⟩ hY F (fun _ _ a ns hl _ hS => ⟨a, ns, rfl, hS, hl, fun _ => rfl⟩) fun _ _ _ _ _ z => z
end PK
/-! The head, and all together. -/
section
open PySem PySem.W PyProof.Rows
set_option maxHeartbeats 0
open_top headTop for PySem.Challenge.rw_pathask_k32_whole_machines_of_patterns
end
open PySem PySem.W PyProof.Rows in
set_option maxRecDepth 100000 in
set_option maxHeartbeats 0 in
theorem PySem.Challenge.cw_pathask_k32_whole_machines_of_patterns_holds : PySem.Challenge.rw_pathask_k32_whole_machines_of_patterns.Holds := by
  refine headTop ?_
  k_fill
  refine PK.walk (l := PySem.Challenge.rw_pathask_k32_whole_machines_of_patterns) rfl rfl (fun w h Y => PySem.W.kIn_of Y) ?F
  case F =>
    intro w mg fa h KX G hmg
    refine' PK.all_mk KX G hmg ?a_machine_of ?h_machine_of ?a_holds_at ?h_holds_at ?a_is_step_by ?h_is_step_by ?a_come_to ?h_come_to ?a_stepped ?h_stepped ?a_has_end ?h_has_end ?a_goes ?h_goes ?a_l_cell_at ?h_l_cell_at ?a_l_draws ?h_l_draws ?a_l_knots ?h_l_knots ?a_l_words ?h_l_words ?a_l_marks ?h_l_marks ?a_l_rows ?h_l_rows ?a_l_laid ?h_l_laid ?a_l_steps ?h_l_steps ?a_l_leaf ?h_l_leaf ?a_l_part ?h_l_part ?a_l_pattern ?h_l_pattern ?a_l_ends ?h_l_ends ?a_l_fits ?h_l_fits ?a_l_still ?h_l_still ?a_l_by ?h_l_by ?a_l_gone ?h_l_gone ?a_l_ways ?h_l_ways ?a_l_is_machine ?h_l_is_machine ?a_l_is_stand ?h_l_is_stand ?a_l_is_name ?h_l_is_name ?a_l_is_leaf ?h_l_is_leaf ?a_l_great ?h_l_great ?a_law ?h_law ?a_Maker ?pg_Maker ?hd_Maker ?po_Maker ?sa_Maker ?mk_Maker ?kc_Maker ?n_size ?n_laid ?a_Web ?pg_Web ?hd_Web ?po_Web ?sa_Web ?mk_Web ?kc_Web ?n_web_marks ?n_web_ties ?n_web_steps ?a_Maker_init ?i_Maker_init ?h_Maker_init ?a_Maker_fresh ?i_Maker_fresh ?h_Maker_fresh ?a_Maker_lay ?i_Maker_lay ?h_Maker_lay ?a_Maker_lay_row ?i_Maker_lay_row ?h_Maker_lay_row ?a_Web_init ?i_Web_init ?h_Web_init ?a_Web_ask_knot ?i_Web_ask_knot ?h_Web_ask_knot ?a_Web_lay_knot ?i_Web_lay_knot ?h_Web_lay_knot ?a_Web_lay_tie ?i_Web_lay_tie ?h_Web_lay_tie ?a_Web_put_knot ?i_Web_put_knot ?h_Web_put_knot ?a_Web_put_tie ?i_Web_put_tie ?h_Web_put_tie ?a_Web_marks ?i_Web_marks ?h_Web_marks ?a_Web_has_tie ?i_Web_has_tie ?h_Web_has_tie ?z_len ?z_range ?z_tuple ?z_sorted ?z_list ?z_reversed ?z_min ?z_isinstance ?z_int ?z_bool ?z_str ?z_set ?a_KNOTS ?a_TIES ?a_LEAVES ?h_LEAVES
    (case a_machine_of => k_is)
    (case h_machine_of => refine' PK.HasFn.of ?l ?c ?k; (case l => k_is); (case c => k_is); (case k => k_is))
    (case a_holds_at => k_is)
    (case h_holds_at => refine' PK.HasFn.of ?l ?c ?k; (case l => k_is); (case c => k_is); (case k => k_is))
    (case a_is_step_by => k_is)
    (case h_is_step_by => refine' PK.HasFn.of ?l ?c ?k; (case l => k_is); (case c => k_is); (case k => k_is))
    (case a_come_to => k_is)
    (case h_come_to => refine' PK.HasFn.of ?l ?c ?k; (case l => k_is); (case c => k_is); (case k => k_is))
    (case a_stepped => k_is)
    (case h_stepped => refine' PK.HasFn.of ?l ?c ?k; (case l => k_is); (case c => k_is); (case k => k_is))
    (case a_has_end => k_is)
    (case h_has_end => refine' PK.HasFn.of ?l ?c ?k; (case l => k_is); (case c => k_is); (case k => k_is))
    (case a_goes => k_is)
    (case h_goes => refine' PK.HasFn.of ?l ?c ?k; (case l => k_is); (case c => k_is); (case k => k_is))
    (case a_l_cell_at => k_is)
    (case h_l_cell_at => refine' PK.HasFn.of ?l ?c ?k; (case l => k_is); (case c => k_is); (case k => k_is))
    (case a_l_draws => k_is)
    (case h_l_draws => refine' PK.HasFn.of ?l ?c ?k; (case l => k_is); (case c => k_is); (case k => k_is))
    (case a_l_knots => k_is)
    (case h_l_knots => refine' PK.HasFn.of ?l ?c ?k; (case l => k_is); (case c => k_is); (case k => k_is))
    (case a_l_words => k_is)
    (case h_l_words => refine' PK.HasFn.of ?l ?c ?k; (case l => k_is); (case c => k_is); (case k => k_is))
    (case a_l_marks => k_is)
    (case h_l_marks => refine' PK.HasFn.of ?l ?c ?k; (case l => k_is); (case c => k_is); (case k => k_is))
    (case a_l_rows => k_is)
    (case h_l_rows => refine' PK.HasFn.of ?l ?c ?k; (case l => k_is); (case c => k_is); (case k => k_is))
    (case a_l_laid => k_is)
    (case h_l_laid => refine' PK.HasFn.of ?l ?c ?k; (case l => k_is); (case c => k_is); (case k => k_is))
    (case a_l_steps => k_is)
    (case h_l_steps => refine' PK.HasFn.of ?l ?c ?k; (case l => k_is); (case c => k_is); (case k => k_is))
    (case a_l_leaf => k_is)
    (case h_l_leaf => refine' PK.HasFn.of ?l ?c ?k; (case l => k_is); (case c => k_is); (case k => k_is))
    (case a_l_part => k_is)
    (case h_l_part => refine' PK.HasFn.of ?l ?c ?k; (case l => k_is); (case c => k_is); (case k => k_is))
    (case a_l_pattern => k_is)
    (case h_l_pattern => refine' PK.HasFn.of ?l ?c ?k; (case l => k_is); (case c => k_is); (case k => k_is))
    (case a_l_ends => k_is)
    (case h_l_ends => refine' PK.HasFn.of ?l ?c ?k; (case l => k_is); (case c => k_is); (case k => k_is))
    (case a_l_fits => k_is)
    (case h_l_fits => refine' PK.HasFn.of ?l ?c ?k; (case l => k_is); (case c => k_is); (case k => k_is))
    (case a_l_still => k_is)
    (case h_l_still => refine' PK.HasFn.of ?l ?c ?k; (case l => k_is); (case c => k_is); (case k => k_is))
    (case a_l_by => k_is)
    (case h_l_by => refine' PK.HasFn.of ?l ?c ?k; (case l => k_is); (case c => k_is); (case k => k_is))
    (case a_l_gone => k_is)
    (case h_l_gone => refine' PK.HasFn.of ?l ?c ?k; (case l => k_is); (case c => k_is); (case k => k_is))
    (case a_l_ways => k_is)
    (case h_l_ways => refine' PK.HasFn.of ?l ?c ?k; (case l => k_is); (case c => k_is); (case k => k_is))
    (case a_l_is_machine => k_is)
    (case h_l_is_machine => refine' PK.HasFn.of ?l ?c ?k; (case l => k_is); (case c => k_is); (case k => k_is))
    (case a_l_is_stand => k_is)
    (case h_l_is_stand => refine' PK.HasFn.of ?l ?c ?k; (case l => k_is); (case c => k_is); (case k => k_is))
    (case a_l_is_name => k_is)
    (case h_l_is_name => refine' PK.HasFn.of ?l ?c ?k; (case l => k_is); (case c => k_is); (case k => k_is))
    (case a_l_is_leaf => k_is)
    (case h_l_is_leaf => refine' PK.HasFn.of ?l ?c ?k; (case l => k_is); (case c => k_is); (case k => k_is))
    (case a_l_great => k_is)
    (case h_l_great => refine' PK.HasFn.of ?l ?c ?k; (case l => k_is); (case c => k_is); (case k => k_is))
    (case a_law => k_is)
    (case h_law => refine' PK.HasFn.of ?l ?c ?k; (case l => k_is); (case c => k_is); (case k => k_is))
    (case a_Maker => k_is)
    (case pg_Maker => k_is)
    (case hd_Maker => k_is)
    (case po_Maker => k_is)
    (case sa_Maker => k_is)
    (case mk_Maker => k_is)
    (case kc_Maker => k_is)
    (case n_size => k_is)
    (case n_laid => k_is)
    (case a_Web => k_is)
    (case pg_Web => k_is)
    (case hd_Web => k_is)
    (case po_Web => k_is)
    (case sa_Web => k_is)
    (case mk_Web => k_is)
    (case kc_Web => k_is)
    (case n_web_marks => k_is)
    (case n_web_ties => k_is)
    (case n_web_steps => k_is)
    (case a_Maker_init => k_is)
    (case i_Maker_init => k_is)
    (case h_Maker_init => refine' PK.HasFn.of ?l ?c ?k; (case l => k_is); (case c => k_is); (case k => k_is))
    (case a_Maker_fresh => k_is)
    (case i_Maker_fresh => k_is)
    (case h_Maker_fresh => refine' PK.HasFn.of ?l ?c ?k; (case l => k_is); (case c => k_is); (case k => k_is))
    (case a_Maker_lay => k_is)
    (case i_Maker_lay => k_is)
    (case h_Maker_lay => refine' PK.HasFn.of ?l ?c ?k; (case l => k_is); (case c => k_is); (case k => k_is))
    (case a_Maker_lay_row => k_is)
    (case i_Maker_lay_row => k_is)
    (case h_Maker_lay_row => refine' PK.HasFn.of ?l ?c ?k; (case l => k_is); (case c => k_is); (case k => k_is))
    (case a_Web_init => k_is)
    (case i_Web_init => k_is)
    (case h_Web_init => refine' PK.HasFn.of ?l ?c ?k; (case l => k_is); (case c => k_is); (case k => k_is))
    (case a_Web_ask_knot => k_is)
    (case i_Web_ask_knot => k_is)
    (case h_Web_ask_knot => refine' PK.HasFn.of ?l ?c ?k; (case l => k_is); (case c => k_is); (case k => k_is))
    (case a_Web_lay_knot => k_is)
    (case i_Web_lay_knot => k_is)
    (case h_Web_lay_knot => refine' PK.HasFn.of ?l ?c ?k; (case l => k_is); (case c => k_is); (case k => k_is))
    (case a_Web_lay_tie => k_is)
    (case i_Web_lay_tie => k_is)
    (case h_Web_lay_tie => refine' PK.HasFn.of ?l ?c ?k; (case l => k_is); (case c => k_is); (case k => k_is))
    (case a_Web_put_knot => k_is)
    (case i_Web_put_knot => k_is)
    (case h_Web_put_knot => refine' PK.HasFn.of ?l ?c ?k; (case l => k_is); (case c => k_is); (case k => k_is))
    (case a_Web_put_tie => k_is)
    (case i_Web_put_tie => k_is)
    (case h_Web_put_tie => refine' PK.HasFn.of ?l ?c ?k; (case l => k_is); (case c => k_is); (case k => k_is))
    (case a_Web_marks => k_is)
    (case i_Web_marks => k_is)
    (case h_Web_marks => refine' PK.HasFn.of ?l ?c ?k; (case l => k_is); (case c => k_is); (case k => k_is))
    (case a_Web_has_tie => k_is)
    (case i_Web_has_tie => k_is)
    (case h_Web_has_tie => refine' PK.HasFn.of ?l ?c ?k; (case l => k_is); (case c => k_is); (case k => k_is))
    (case z_len => k_is)
    (case z_range => k_is)
    (case z_tuple => k_is)
    (case z_sorted => k_is)
    (case z_list => k_is)
    (case z_reversed => k_is)
    (case z_min => k_is)
    (case z_isinstance => k_is)
    (case z_int => k_is)
    (case z_bool => k_is)
    (case z_str => k_is)
    (case z_set => k_is)
    (case a_KNOTS => k_is)
    (case a_TIES => k_is)
    (case a_LEAVES => k_is)
    (case h_LEAVES => refine' PK.leaves_of ?l; (case l => k_is))
