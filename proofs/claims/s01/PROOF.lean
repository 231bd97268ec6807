import PyProof.Rows.All
import Wide.All
import OpenK.AllK
import Wide.FinOn
import PyProof.EqAt
import PyProof.EqKinds
import PyProof.TupleCall
import Open.SpecLaws
import KE.OsGo
import HandS.ForSpec
import HandS.Comp
import HandS.Iter
import HandS.Walk
import HandS.Dict
import HandS.Rev
import HandS.TupLen
import PySem.Challenge.RW_treerulesdesk_s01_answers
import HandS.Strs
import HandS.SetFor
import HandS.SetBool
import HandS.TupSets
import HandS.WordsExc
import HandS.Style
import HandS.ExcField
set_option linter.all false
/-! The pieces that nonterminals cover: the specification's table against a plain derivation. -/
namespace TR
open Vaglrc (Sym Rule Grammar)

/-! ### lists that rise -/
abbrev Up (l : List Nat) : Prop := l.Pairwise (· < ·)

theorem up_ext : ∀ {a b : List Nat}, Up a → Up b → (∀ x, x ∈ a ↔ x ∈ b) → a = b
  | [], [], _, _, _ => rfl
  | [], y :: r, _, _, h => by have := (h y).mpr (by simp); simp at this
  | y :: r, [], _, _, h => by have := (h y).mp (by simp); simp at this
  | x :: r, y :: s, ha, hb, h => by
    have ha' := List.pairwise_cons.mp ha
    have hb' := List.pairwise_cons.mp hb
    have e : x = y := by
      rcases List.mem_cons.mp ((h x).mp (by simp)) with e | e
      · exact e
      · rcases List.mem_cons.mp ((h y).mpr (by simp)) with e2 | e2
        · exact e2.symm
        · have h1 := hb'.1 x e
          have h2 := ha'.1 y e2
          omega
    subst e
    have hr : r = s := up_ext ha'.2 hb'.2 fun z => by
      constructor
      · intro hz
        rcases List.mem_cons.mp ((h z).mp (by simp [hz])) with e | e
        · have := ha'.1 z hz; omega
        · exact e
      · intro hz
        rcases List.mem_cons.mp ((h z).mpr (by simp [hz])) with e | e
        · have := hb'.1 z hz; omega
        · exact e
    rw [hr]

theorem up_nodup {l : List Nat} (h : Up l) : l.Nodup := h.imp fun h => Nat.ne_of_lt h
theorem up_filter {l : List Nat} (p : Nat → Bool) (h : Up l) : Up (l.filter p) := h.filter p
theorem up_range (n : Nat) : Up (List.range n) := List.pairwise_lt_range
theorem up_length : ∀ {l : List Nat} {n : Nat}, Up l → (∀ x ∈ l, x < n) → l.length ≤ n := by
  intro l n h hb
  have hs : l = (List.range n).filter (fun x => decide (x ∈ l)) := up_ext h (up_filter _ (up_range n)) fun x => by
    simp only [List.mem_filter, List.mem_range, decide_eq_true_eq]
    exact ⟨fun hx => ⟨hb x hx, hx⟩, fun hx => hx.2⟩
  rw [hs]
  exact Nat.le_trans (List.length_filter_le _ _) (by simp)

/-! ### the specification's lists -/
theorem has_iff {x : Nat} {l : List Nat} : Vaglrc.has x l = true ↔ x ∈ l := by
  unfold Vaglrc.has
  simp only [List.any_eq_true, beq_iff_eq]
  exact ⟨fun ⟨y, h, e⟩ => e ▸ h, fun h => ⟨x, h, rfl⟩⟩
theorem has_false {x : Nat} {l : List Nat} : Vaglrc.has x l = false ↔ x ∉ l := by
  rw [← has_iff]; simp
theorem mem_put {x y : Nat} : ∀ {l : List Nat}, y ∈ Vaglrc.put x l ↔ y = x ∨ y ∈ l
  | [] => by simp [Vaglrc.put]
  | z :: r => by
    unfold Vaglrc.put
    split
    · simp
    · split
      · rename_i h1 h2
        have e : x = z := by simpa using h2
        subst e
        simp
      · simp only [List.mem_cons, mem_put (l := r)]
        constructor
        · rintro (h | h | h)
          · exact .inr (.inl h)
          · exact .inl h
          · exact .inr (.inr h)
        · rintro (h | h | h)
          · exact .inr (.inl h)
          · exact .inl h
          · exact .inr (.inr h)
theorem up_put {x : Nat} : ∀ {l : List Nat}, Up l → Up (Vaglrc.put x l)
  | [], _ => by simp [Vaglrc.put]
  | z :: r, h => by
    have h' := List.pairwise_cons.mp h
    unfold Vaglrc.put
    split
    · rename_i hx
      refine List.pairwise_cons.mpr ⟨fun y hy => ?_, h⟩
      rcases List.mem_cons.mp hy with e | hy
      · rw [e]; exact hx
      · exact Nat.lt_trans hx (h'.1 y hy)
    · split
      · exact h
      · rename_i h1 h2
        have hne : x ≠ z := by simpa using h2
        refine List.pairwise_cons.mpr ⟨fun y hy => ?_, up_put h'.2⟩
        rcases mem_put.mp hy with e | hy
        · rw [e]; omega
        · exact h'.1 y hy
theorem mem_union {y : Nat} : ∀ {a b : List Nat}, y ∈ Vaglrc.union a b ↔ y ∈ a ∨ y ∈ b := by
  intro a
  induction a with
  | nil => intro b; simp [Vaglrc.union]
  | cons x r ih =>
    intro b
    have e : Vaglrc.union (x :: r) b = Vaglrc.union r (Vaglrc.put x b) := rfl
    rw [e, ih, mem_put]
    simp only [List.mem_cons]
    constructor
    · rintro (h | h | h)
      · exact .inl (.inr h)
      · exact .inl (.inl h)
      · exact .inr h
    · rintro ((h | h) | h)
      · exact .inr (.inl h)
      · exact .inl h
      · exact .inr (.inr h)
theorem up_union : ∀ {a b : List Nat}, Up b → Up (Vaglrc.union a b) := by
  intro a
  induction a with
  | nil => intro b h; exact h
  | cons x r ih => intro b h; exact ih (up_put h)

/-- one symbol further from any of some places -/
def stepE (x : List Nat) (t : Vaglrc.Spans) (s : Sym) (e : List Nat) : List Nat := e.foldl (fun a j => Vaglrc.union (Vaglrc.symEnds x t s j) a) []
theorem mem_stepE_acc {x : List Nat} {t : Vaglrc.Spans} {s : Sym} {y : Nat} : ∀ {e acc : List Nat},
    y ∈ e.foldl (fun a j => Vaglrc.union (Vaglrc.symEnds x t s j) a) acc ↔ y ∈ acc ∨ ∃ j ∈ e, y ∈ Vaglrc.symEnds x t s j := by
  intro e
  induction e with
  | nil => intro acc; simp
  | cons j r ih =>
    intro acc
    rw [List.foldl_cons, ih, mem_union]
    simp only [List.mem_cons]
    constructor
    · rintro ((h | h) | ⟨k, h, h2⟩)
      · exact .inr ⟨j, .inl rfl, h⟩
      · exact .inl h
      · exact .inr ⟨k, .inr h, h2⟩
    · rintro (h | ⟨k, rfl | h, h2⟩)
      · exact .inl (.inr h)
      · exact .inl (.inl h2)
      · exact .inr ⟨k, h, h2⟩
theorem mem_stepE {x : List Nat} {t : Vaglrc.Spans} {s : Sym} {y : Nat} {e : List Nat} : y ∈ stepE x t s e ↔ ∃ j ∈ e, y ∈ Vaglrc.symEnds x t s j := by
  unfold stepE
  rw [mem_stepE_acc]
  simp
theorem up_stepE {x : List Nat} {t : Vaglrc.Spans} {s : Sym} {e : List Nat} : Up (stepE x t s e) := by
  have go : ∀ (e acc : List Nat), Up acc → Up (e.foldl (fun a j => Vaglrc.union (Vaglrc.symEnds x t s j) a) acc) := by
    intro e
    induction e with
    | nil => intro acc h; exact h
    | cons j r ih => intro acc h; exact ih _ (up_union h)
  exact go e [] (by simp)
theorem rowEnds_foldl {x : List Nat} {t : Vaglrc.Spans} {l : List Sym} {i : Nat} : Vaglrc.rowEnds x t l i = l.foldl (fun e s => stepE x t s e) [i] := rfl

/-- the way through a row of symbols -/
def Path (x : List Nat) (t : Vaglrc.Spans) : List Sym → Nat → Nat → Prop
  | [], i, j => i = j
  | s :: l, i, j => ∃ k ∈ Vaglrc.symEnds x t s i, Path x t l k j
theorem mem_foldE {x : List Nat} {t : Vaglrc.Spans} {j : Nat} : ∀ {l : List Sym} {e : List Nat}, j ∈ l.foldl (fun e s => stepE x t s e) e ↔ ∃ i ∈ e, Path x t l i j := by
  intro l
  induction l with
  | nil => intro e; simp [Path]
  | cons s l ih =>
    intro e
    rw [List.foldl_cons, ih]
    constructor
    · rintro ⟨k, hk, p⟩
      obtain ⟨i, hi, hs⟩ := mem_stepE.mp hk
      exact ⟨i, hi, k, hs, p⟩
    · rintro ⟨i, hi, k, hs, p⟩
      exact ⟨k, mem_stepE.mpr ⟨i, hi, hs⟩, p⟩
theorem mem_rowEnds {x : List Nat} {t : Vaglrc.Spans} {l : List Sym} {i j : Nat} : j ∈ Vaglrc.rowEnds x t l i ↔ Path x t l i j := by
  rw [rowEnds_foldl, mem_foldE]; simp
theorem up_rowEnds {x : List Nat} {t : Vaglrc.Spans} {l : List Sym} {i : Nat} : Up (Vaglrc.rowEnds x t l i) := by
  rw [rowEnds_foldl]
  have go : ∀ (l : List Sym) (e : List Nat), Up e → Up (l.foldl (fun e s => stepE x t s e) e) := by
    intro l
    induction l with
    | nil => intro e h; exact h
    | cons s l ih => intro e _; exact ih _ up_stepE
  exact go l [i] (by simp)
theorem path_append {x : List Nat} {t : Vaglrc.Spans} {j : Nat} : ∀ {l m : List Sym} {i : Nat}, Path x t (l ++ m) i j ↔ ∃ k, Path x t l i k ∧ Path x t m k j
  | [], m, i => by simp [Path]
  | s :: l, m, i => by
    show (∃ k ∈ Vaglrc.symEnds x t s i, Path x t (l ++ m) k j) ↔ _
    constructor
    · rintro ⟨k, hk, p⟩
      obtain ⟨k', p1, p2⟩ := path_append.mp p
      exact ⟨k', ⟨k, hk, p1⟩, p2⟩
    · rintro ⟨k', ⟨k, hk, p1⟩, p2⟩
      exact ⟨k, hk, path_append.mpr ⟨k', p1, p2⟩⟩

/-! ### derivations -/
/-- a row of symbols covers the piece from i to j -/
inductive Cov (rs : List Rule) (x : List Nat) : List Sym → Nat → Nat → Prop where
  | nil {i : Nat} : Cov rs x [] i i
  | rng {lo hi b i j : Nat} {l : List Sym} : x[i]? = some b → lo ≤ b → b ≤ hi → Cov rs x l (i + 1) j → Cov rs x (.range lo hi :: l) i j
  | non {a i k j : Nat} {r : Rule} {l : List Sym} : r ∈ rs → r.lhs = a → Cov rs x r.rhs i k → Cov rs x l k j → Cov rs x (.non a :: l) i j
def CovN (rs : List Rule) (x : List Nat) (a i j : Nat) : Prop := ∃ r ∈ rs, r.lhs = a ∧ Cov rs x r.rhs i j
theorem Cov.le {rs : List Rule} {x : List Nat} {l : List Sym} {i j : Nat} (h : Cov rs x l i j) : i ≤ j ∧ (i ≤ x.length → j ≤ x.length) := by
  induction h with
  | nil => exact ⟨Nat.le_refl _, fun h => h⟩
  | @rng lo hi b i j l hx _ _ _ ih =>
    have := (List.getElem?_eq_some_iff.mp hx).1
    exact ⟨by omega, fun _ => ih.2 (by omega)⟩
  | non _ _ _ _ ih1 ih2 => exact ⟨by omega, fun h => ih2.2 (ih1.2 h)⟩

/-! ### what every table between keeps -/
theorem getD_map_range {α : Type} {f : Nat → α} {n a : Nat} {d : α} : ((List.range n).map f).getD a d = if a < n then f a else d := by
  unfold List.getD
  rw [List.getElem?_map]
  by_cases h : a < n
  · rw [List.getElem?_range h, if_pos h]; rfl
  · rw [List.getElem?_eq_none (by simpa using h), if_neg h]; rfl
theorem foldl_if_mem {rs : List Rule} {a : Nat} {f : Rule → List Nat} {y : Nat} : ∀ {acc : List Nat},
    y ∈ rs.foldl (fun l r => if r.lhs == a then Vaglrc.union (f r) l else l) acc ↔ y ∈ acc ∨ ∃ r ∈ rs, r.lhs = a ∧ y ∈ f r := by
  induction rs with
  | nil => intro acc; simp
  | cons r rs ih =>
    intro acc
    rw [List.foldl_cons, ih]
    by_cases h : r.lhs = a
    · rw [if_pos (by simpa using h), mem_union]
      simp only [List.mem_cons]
      constructor
      · rintro ((h1 | h1) | ⟨q, hq, h1⟩)
        · exact .inr ⟨r, .inl rfl, h, h1⟩
        · exact .inl h1
        · exact .inr ⟨q, .inr hq, h1⟩
      · rintro (h1 | ⟨q, rfl | hq, h1⟩)
        · exact .inl (.inr h1)
        · exact .inl (.inl h1.2)
        · exact .inr ⟨q, hq, h1⟩
    · rw [if_neg (by simpa using h)]
      simp only [List.mem_cons]
      constructor
      · rintro (h1 | ⟨q, hq, h1⟩)
        · exact .inl h1
        · exact .inr ⟨q, .inr hq, h1⟩
      · rintro (h1 | ⟨q, rfl | hq, h1⟩)
        · exact .inl h1
        · exact absurd h1.1 h
        · exact .inr ⟨q, hq, h1⟩
theorem foldl_if_up {rs : List Rule} {a : Nat} {f : Rule → List Nat} : ∀ {acc : List Nat}, Up acc → Up (rs.foldl (fun l r => if r.lhs == a then Vaglrc.union (f r) l else l) acc) := by
  induction rs with
  | nil => intro acc h; exact h
  | cons r rs ih =>
    intro acc h
    rw [List.foldl_cons]
    refine ih ?_
    split
    · exact up_union h
    · exact h

section
variable {g : Grammar} {x : List Nat}
/-- the table's form, and that it holds no more than what follows -/
structure Good (g : Grammar) (x : List Nat) (t : Vaglrc.Spans) : Prop where
  form : ∃ f : Nat → Nat → List Nat, t = (List.range g.nons).map fun a => (List.range (x.length + 1)).map fun i => f a i
  up : ∀ a i, Up (Vaglrc.ends t a i)
  sound : ∀ a i j, j ∈ Vaglrc.ends t a i → CovN g.rules x a i j ∧ i ≤ x.length
theorem ends_form {n m : Nat} {f : Nat → Nat → List Nat} {a i : Nat} : Vaglrc.ends ((List.range n).map fun a => (List.range m).map fun i => f a i) a i = if a < n then (if i < m then f a i else []) else [] := by
  unfold Vaglrc.ends
  rw [getD_map_range]
  by_cases h : a < n
  · rw [if_pos h, if_pos h, getD_map_range]
  · rw [if_neg h, if_neg h]; rfl
theorem Good.ext {t u : Vaglrc.Spans} (h : Good g x t) (k : Good g x u) (e : ∀ a i j, j ∈ Vaglrc.ends t a i ↔ j ∈ Vaglrc.ends u a i) : t = u := by
  obtain ⟨f, hf⟩ := h.form
  obtain ⟨f', hf'⟩ := k.form
  rw [hf, hf']
  refine List.map_congr_left fun a ha => List.map_congr_left fun i hi => ?_
  have ha' : a < g.nons := by simpa using ha
  have hi' : i < x.length + 1 := by simpa using hi
  have e1 : Vaglrc.ends t a i = f a i := by rw [hf, ends_form, if_pos ha', if_pos hi']
  have e2 : Vaglrc.ends u a i = f' a i := by rw [hf', ends_form, if_pos ha', if_pos hi']
  rw [← e1, ← e2]
  exact up_ext (h.up a i) (k.up a i) (e a i)
theorem Good.lim {t : Vaglrc.Spans} (h : Good g x t) {a i j : Nat} (m : j ∈ Vaglrc.ends t a i) : a < g.nons ∧ i ≤ x.length ∧ i ≤ j ∧ j ≤ x.length := by
  obtain ⟨⟨r, _, _, c⟩, hi⟩ := h.sound a i j m
  refine ⟨?_, hi, c.le.1, c.le.2 hi⟩
  obtain ⟨f, hf⟩ := h.form
  rw [hf, ends_form] at m
  by_cases ha : a < g.nons
  · exact ha
  · rw [if_neg ha] at m; simp at m
theorem symEnds_cov {t : Vaglrc.Spans} (h : Good g x t) {s : Sym} {l : List Sym} {i k j : Nat} (m : k ∈ Vaglrc.symEnds x t s i) (c : Cov g.rules x l k j) : Cov g.rules x (s :: l) i j := by
  cases s with
  | non a =>
    obtain ⟨⟨r, hr, e, c1⟩, _⟩ := h.sound a i k m
    exact .non hr e c1 c
  | range lo hi =>
    have m' : k ∈ (match x[i]? with | some b => if lo ≤ b then (if b ≤ hi then [i + 1] else []) else [] | none => []) := m
    cases hx : x[i]? with
    | none => rw [hx] at m'; simp at m'
    | some b =>
      rw [hx] at m'
      by_cases h1 : lo ≤ b
      · by_cases h2 : b ≤ hi
        · simp only [h1, h2, if_true, List.mem_singleton] at m'
          subst m'
          exact .rng hx h1 h2 c
        · simp only [h1, h2, if_true, if_false] at m'; simp at m'
      · simp only [h1, if_false] at m'; simp at m'
theorem path_cov {t : Vaglrc.Spans} (h : Good g x t) : ∀ {l : List Sym} {i j : Nat}, Path x t l i j → Cov g.rules x l i j
  | [], i, j, e => by
    have e' : i = j := e
    subst e'
    exact .nil
  | s :: l, i, j, ⟨k, hk, p⟩ => symEnds_cov h hk (path_cov h p)
theorem ends_round {t : Vaglrc.Spans} {a i : Nat} : Vaglrc.ends (Vaglrc.round g x t) a i =
    if a < g.nons then (if i < x.length + 1 then g.rules.foldl (fun l r => if r.lhs == a then Vaglrc.union (Vaglrc.rowEnds x t r.rhs i) l else l) (Vaglrc.ends t a i) else []) else [] := ends_form
theorem mem_round {t : Vaglrc.Spans} {a i j : Nat} : j ∈ Vaglrc.ends (Vaglrc.round g x t) a i ↔ a < g.nons ∧ i ≤ x.length ∧ (j ∈ Vaglrc.ends t a i ∨ ∃ r ∈ g.rules, r.lhs = a ∧ Path x t r.rhs i j) := by
  rw [ends_round]
  by_cases ha : a < g.nons
  · by_cases hi : i < x.length + 1
    · rw [if_pos ha, if_pos hi, foldl_if_mem]
      simp only [mem_rowEnds]
      exact ⟨fun h => ⟨ha, by omega, h⟩, fun h => h.2.2⟩
    · rw [if_pos ha, if_neg hi]
      simp only [List.not_mem_nil, false_iff, not_and]
      intro _ h; omega
  · rw [if_neg ha]
    simp only [List.not_mem_nil, false_iff, not_and]
    intro h; exact absurd h ha
theorem Good.round {t : Vaglrc.Spans} (h : Good g x t) : Good g x (Vaglrc.round g x t) where
  form := ⟨_, rfl⟩
  up := fun a i => by
    rw [ends_round]
    split
    · split
      · exact foldl_if_up (h.up a i)
      · simp
    · simp
  sound := fun a i j m => by
    obtain ⟨ha, hi, m | ⟨r, hr, e, p⟩⟩ := mem_round.mp m
    · exact h.sound a i j m
    · exact ⟨⟨r, hr, e, path_cov h p⟩, hi⟩
theorem Good.mono {t : Vaglrc.Spans} (h : Good g x t) {a i j : Nat} (m : j ∈ Vaglrc.ends t a i) : j ∈ Vaglrc.ends (Vaglrc.round g x t) a i :=
  mem_round.mpr ⟨(h.lim m).1, (h.lim m).2.1, .inl m⟩
theorem good_nothing : Good g x (Vaglrc.nothing g x) where
  form := ⟨fun _ _ => [], rfl⟩
  up := fun a i => by
    unfold Vaglrc.nothing
    rw [ends_form]
    split
    · split <;> simp
    · simp
  sound := fun a i j m => by
    unfold Vaglrc.nothing at m
    rw [ends_form] at m
    split at m
    · split at m <;> simp at m
    · simp at m

/-! ### counting what is in -/
theorem filter_lt {α : Type} {p q : α → Bool} : ∀ {U : List α}, (∀ z ∈ U, p z = true → q z = true) → (∃ z ∈ U, q z = true ∧ p z = false) → (U.filter p).length < (U.filter q).length
  | [], _, ⟨z, hz, _⟩ => by simp at hz
  | y :: U, h, ⟨z, hz, hq, hp⟩ => by
    have hle : (U.filter p).length ≤ (U.filter q).length := by
      have go : ∀ V : List α, (∀ z ∈ V, p z = true → q z = true) → (V.filter p).length ≤ (V.filter q).length := by
        intro V
        induction V with
        | nil => intro _; simp
        | cons v V ih =>
          intro hv
          have i1 := ih fun z hz => hv z (List.mem_cons_of_mem _ hz)
          rw [List.filter_cons, List.filter_cons]
          by_cases h1 : p v = true
          · rw [if_pos h1, if_pos (hv v List.mem_cons_self h1)]; simp; exact i1
          · rw [if_neg h1]
            split
            · simp; omega
            · exact i1
      exact go U fun z hz => h z (List.mem_cons_of_mem _ hz)
    rw [List.filter_cons, List.filter_cons]
    rcases List.mem_cons.mp hz with e | hz
    · subst e
      rw [if_pos hq, if_neg (by simp [hp])]
      simp; omega
    · have ih := filter_lt (U := U) (fun z hz => h z (List.mem_cons_of_mem _ hz)) ⟨z, hz, hq, hp⟩
      by_cases h1 : p y = true
      · rw [if_pos h1, if_pos (h y List.mem_cons_self h1)]; simp; exact ih
      · rw [if_neg h1]
        split
        · simp; omega
        · exact ih
/-- all nonterminals with all places -/
def univ (n m : Nat) : List (Nat × Nat × Nat) := (List.range n).flatMap fun a => (List.range (m + 1)).flatMap fun i => (List.range (m + 1)).map fun j => (a, i, j)
theorem mem_univ {n m a i j : Nat} : (a, i, j) ∈ univ n m ↔ a < n ∧ i ≤ m ∧ j ≤ m := by
  unfold univ
  simp only [List.mem_flatMap, List.mem_map, List.mem_range, Prod.mk.injEq]
  constructor
  · rintro ⟨a', ha, i', hi, j', hj, rfl, rfl, rfl⟩
    exact ⟨ha, by omega, by omega⟩
  · rintro ⟨ha, hi, hj⟩
    exact ⟨a, ha, i, by omega, j, by omega, rfl, rfl, rfl⟩
theorem length_flatMap_const {α β : Type} {f : α → List β} {k : Nat} : ∀ {l : List α}, (∀ a ∈ l, (f a).length = k) → (l.flatMap f).length = l.length * k
  | [], _ => by simp
  | a :: l, h => by
    rw [List.flatMap_cons, List.length_append, h a List.mem_cons_self, length_flatMap_const fun b hb => h b (List.mem_cons_of_mem _ hb), List.length_cons, Nat.add_mul]
    omega
theorem length_univ {n m : Nat} : (univ n m).length = n * (m + 1) * (m + 1) := by
  unfold univ
  rw [length_flatMap_const (k := (m + 1) * (m + 1)), List.length_range, Nat.mul_assoc]
  intro a _
  rw [length_flatMap_const (k := m + 1), List.length_range]
  intro i _
  simp
def tot (g : Grammar) (x : List Nat) (t : Vaglrc.Spans) : Nat := ((univ g.nons x.length).filter fun z => Vaglrc.covers t z.1 z.2.1 z.2.2).length
theorem covers_iff {t : Vaglrc.Spans} {a i j : Nat} : Vaglrc.covers t a i j = true ↔ j ∈ Vaglrc.ends t a i := has_iff
theorem tot_le {t : Vaglrc.Spans} : tot g x t ≤ g.nons * (x.length + 1) * (x.length + 1) := by
  rw [← length_univ]
  exact List.length_filter_le _ _
theorem tot_lt {t : Vaglrc.Spans} (h : Good g x t) (hne : Vaglrc.round g x t ≠ t) : tot g x t < tot g x (Vaglrc.round g x t) := by
  refine filter_lt (fun z _ hz => covers_iff.mpr (h.mono (covers_iff.mp hz))) ?_
  apply Classical.byContradiction
  intro hno
  refine hne (Good.ext h.round h fun a i j => ⟨fun m => ?_, fun m => h.mono m⟩)
  apply Classical.byContradiction
  intro hm
  have l := h.round.lim m
  exact hno ⟨(a, i, j), mem_univ.mpr ⟨l.1, l.2.1, l.2.2.2⟩, covers_iff.mpr m, by
    rw [← Bool.not_eq_true]
    exact fun q => hm (covers_iff.mp q)⟩
theorem settle_fix : ∀ (k : Nat) (t : Vaglrc.Spans), Good g x t → g.nons * (x.length + 1) * (x.length + 1) < k + tot g x t → Good g x (Vaglrc.settle g x k t) ∧ Vaglrc.round g x (Vaglrc.settle g x k t) = Vaglrc.settle g x k t := by
  intro k
  induction k with
  | zero =>
    intro t h hk
    have := tot_le (g := g) (x := x) (t := t)
    omega
  | succ k ih =>
    intro t h hk
    have e : Vaglrc.settle g x (k + 1) t = if (Vaglrc.round g x t == t) = true then t else Vaglrc.settle g x k (Vaglrc.round g x t) := rfl
    rw [e]
    by_cases hb : Vaglrc.round g x t = t
    · rw [if_pos (by simpa using hb)]
      exact ⟨h, hb⟩
    · rw [if_neg (by simpa using hb)]
      have := tot_lt h hb
      exact ih _ h.round (by omega)
theorem spans_fix : Good g x (Vaglrc.spansOf g x) ∧ Vaglrc.round g x (Vaglrc.spansOf g x) = Vaglrc.spansOf g x :=
  settle_fix _ _ good_nothing (by omega)
theorem spans_good : Good g x (Vaglrc.spansOf g x) := spans_fix.1

/-- all nonterminals of the rules stand below the number -/
structure WfG (g : Grammar) : Prop where
  lhs : ∀ r ∈ g.rules, r.lhs < g.nons
  rhs : ∀ r ∈ g.rules, ∀ b, Sym.non b ∈ r.rhs → b < g.nons
theorem cov_path (wf : WfG g) : ∀ {l : List Sym} {i j : Nat}, Cov g.rules x l i j → i ≤ x.length → (∀ b, Sym.non b ∈ l → b < g.nons) → Path x (Vaglrc.spansOf g x) l i j := by
  intro l i j c
  induction c with
  | nil => intro _ _; rfl
  | @rng lo hi b i j l hx h1 h2 _ ih =>
    intro hi hb
    have hlt := (List.getElem?_eq_some_iff.mp hx).1
    refine ⟨i + 1, ?_, ih (by omega) fun b hm => hb b (List.mem_cons_of_mem _ hm)⟩
    show i + 1 ∈ (match x[i]? with | some b => if lo ≤ b then (if b ≤ _ then [i + 1] else []) else [] | none => [])
    rw [hx]
    simp only [h1, h2, if_true, List.mem_singleton]
  | @non a i k j r l hr e c1 c2 ih1 ih2 =>
    intro hi hb
    have hk := c1.le.2 hi
    refine ⟨k, ?_, ih2 hk fun b hm => hb b (List.mem_cons_of_mem _ hm)⟩
    show k ∈ Vaglrc.ends (Vaglrc.spansOf g x) a i
    rw [← spans_fix.2]
    exact mem_round.mpr ⟨hb a List.mem_cons_self, hi, .inr ⟨r, hr, e, ih1 hi (wf.rhs r hr)⟩⟩
/-- the table is exact -/
theorem mem_ends (wf : WfG g) {a i j : Nat} (hi : i ≤ x.length) : j ∈ Vaglrc.ends (Vaglrc.spansOf g x) a i ↔ CovN g.rules x a i j := by
  constructor
  · intro m
    exact (spans_good.sound a i j m).1
  · rintro ⟨r, hr, e, c⟩
    rw [← spans_fix.2]
    refine mem_round.mpr ⟨?_, hi, .inr ⟨r, hr, e, cov_path wf c hi (wf.rhs r hr)⟩⟩
    rw [← e]; exact wf.lhs r hr
/-- a piece is covered just by a rule whose symbols do -/
theorem mem_ends_path (wf : WfG g) {a i j : Nat} : j ∈ Vaglrc.ends (Vaglrc.spansOf g x) a i ↔ a < g.nons ∧ i ≤ x.length ∧ ∃ r ∈ g.rules, r.lhs = a ∧ Path x (Vaglrc.spansOf g x) r.rhs i j := by
  constructor
  · intro m
    have l := spans_good.lim m
    obtain ⟨⟨r, hr, e, c⟩, _⟩ := spans_good.sound a i j m
    exact ⟨l.1, l.2.1, r, hr, e, cov_path wf c l.2.1 (wf.rhs r hr)⟩
  · rintro ⟨ha, hi, r, hr, e, p⟩
    rw [← spans_fix.2]
    exact mem_round.mpr ⟨ha, hi, .inr ⟨r, hr, e, p⟩⟩
end
end TR
set_option linter.all false
/-! Nodes that have infinitely many trees. -/
namespace TR
open Vaglrc (Sym Rule Grammar Node)

/-! ### nodes -/
theorem sameNode_iff {m n : Node} : Vaglrc.sameNode m n = true ↔ m = n := by
  obtain ⟨a, b, c⟩ := m
  obtain ⟨d, e, f⟩ := n
  unfold Vaglrc.sameNode
  simp only [Bool.and_eq_true, beq_iff_eq, Prod.mk.injEq]
theorem hasNode_iff {n : Node} {l : List Node} : Vaglrc.hasNode n l = true ↔ n ∈ l := by
  unfold Vaglrc.hasNode
  simp only [List.any_eq_true, sameNode_iff]
  exact ⟨fun ⟨y, h, e⟩ => e ▸ h, fun h => ⟨n, h, rfl⟩⟩
theorem mem_onceNodes {n : Node} {l : List Node} : n ∈ Vaglrc.onceNodes l ↔ n ∈ l := by
  have go : ∀ (l acc : List Node), n ∈ l.foldl (fun a n => if Vaglrc.hasNode n a then a else a ++ [n]) acc ↔ n ∈ acc ∨ n ∈ l := by
    intro l
    induction l with
    | nil => intro acc; simp
    | cons m l ih =>
      intro acc
      rw [List.foldl_cons, ih]
      by_cases h : m ∈ acc
      · rw [if_pos (hasNode_iff.mpr h)]
        simp only [List.mem_cons]
        constructor
        · rintro (h1 | h1)
          · exact .inl h1
          · exact .inr (.inr h1)
        · rintro (h1 | rfl | h1)
          · exact .inl h1
          · exact .inl h
          · exact .inr h1
      · rw [if_neg (fun q => h (hasNode_iff.mp q))]
        simp only [List.mem_append, List.mem_cons, List.not_mem_nil, or_false]
        constructor
        · rintro ((h1 | h1) | h1)
          · exact .inl h1
          · exact .inr (.inl h1)
          · exact .inr (.inr h1)
        · rintro (h1 | h1 | h1)
          · exact .inl (.inl h1)
          · exact .inl (.inr h1)
          · exact .inr h1
  have := go l []
  simpa [Vaglrc.onceNodes] using this
theorem zip_map_self {α β : Type} (f : α → β) : ∀ l : List α, l.zip (l.map f) = l.map fun a => (a, f a)
  | [] => rfl
  | a :: l => by rw [List.map_cons, List.zip_cons_cons, zip_map_self f l, List.map_cons]
theorem nodesOf_form {n m : Nat} {f : Nat → Nat → List Nat} : Vaglrc.nodesOf ((List.range n).map fun a => (List.range m).map fun i => f a i) =
    (List.range n).flatMap fun a => (List.range m).flatMap fun i => (f a i).map fun j => (a, i, j) := by
  unfold Vaglrc.nodesOf
  rw [List.length_map, List.length_range, zip_map_self, List.flatMap_map]
  have e : ∀ a : Nat, (((List.range ((List.range m).map fun i => f a i).length).zip ((List.range m).map fun i => f a i)).flatMap fun i => i.2.map fun j => (a, i.1, j)) = (List.range m).flatMap fun i => (f a i).map fun j => (a, i, j) := by
    intro a
    rw [List.length_map, List.length_range, zip_map_self, List.flatMap_map]
  simp only [e]
section
variable {g : Grammar} {x : List Nat} {t : Vaglrc.Spans}
theorem mem_nodesOf (h : Good g x t) {n : Node} : n ∈ Vaglrc.nodesOf t ↔ n.2.2 ∈ Vaglrc.ends t n.1 n.2.1 := by
  obtain ⟨a, i, j⟩ := n
  obtain ⟨f, hf⟩ := h.form
  rw [hf, nodesOf_form, ends_form]
  simp only [List.mem_flatMap, List.mem_map, List.mem_range, Prod.mk.injEq]
  constructor
  · rintro ⟨a', ha, i', hi, j', hj, rfl, rfl, rfl⟩
    rw [if_pos ha, if_pos hi]
    exact hj
  · intro m
    by_cases ha : a < g.nons
    · by_cases hi : i < x.length + 1
      · rw [if_pos ha, if_pos hi] at m
        exact ⟨a, ha, i, hi, j, m, rfl, rfl, rfl⟩
      · rw [if_pos ha, if_neg hi] at m; simp at m
    · rw [if_neg ha] at m; simp at m

/-- m stands directly beneath n in some tree -/
def Kid (g : Grammar) (x : List Nat) (t : Vaglrc.Spans) (n m : Node) : Prop := ∃ r ∈ g.rules, r.lhs = n.1 ∧ ∃ l1 l2, r.rhs = l1 ++ Sym.non m.1 :: l2 ∧ Path x t l1 n.2.1 m.2.1 ∧ m.2.2 ∈ Vaglrc.ends t m.1 m.2.1 ∧ Path x t l2 m.2.2 n.2.2
theorem split_at {α : Type} {l : List α} {m : Nat} {a : α} (h : l[m]? = some a) : l = l.take m ++ a :: l.drop (m + 1) := by
  obtain ⟨hm, e⟩ := List.getElem?_eq_some_iff.mp h
  rw [← e, ← List.drop_eq_getElem_cons hm, List.take_append_drop]
theorem mem_childrenAt {r : Rule} {i j k : Nat} {m : Node} : m ∈ Vaglrc.childrenAt x t r i j k ↔ r.rhs[k]? = some (.non m.1) ∧ Path x t (r.rhs.take k) i m.2.1 ∧ m.2.2 ∈ Vaglrc.ends t m.1 m.2.1 ∧ Path x t (r.rhs.drop (k + 1)) m.2.2 j := by
  obtain ⟨b, p, q⟩ := m
  unfold Vaglrc.childrenAt
  cases h : r.rhs[k]? with
  | none => simp
  | some s =>
    cases s with
    | range lo hi => simp
    | non c =>
      simp only [List.mem_flatMap, List.mem_map, List.mem_filter, has_iff, mem_rowEnds, Prod.mk.injEq, Option.some.injEq, Sym.non.injEq]
      constructor
      · rintro ⟨p', hp, q', ⟨hq, hj⟩, rfl, rfl, rfl⟩
        exact ⟨rfl, hp, hq, hj⟩
      · rintro ⟨rfl, hp, hq, hj⟩
        exact ⟨p, hp, q, ⟨hq, hj⟩, rfl, rfl, rfl⟩
theorem mem_children {n m : Node} : m ∈ Vaglrc.children g x t n ↔ Kid g x t n m := by
  unfold Vaglrc.children
  rw [mem_onceNodes, List.mem_flatMap]
  constructor
  · rintro ⟨r, hr, h⟩
    by_cases e : r.lhs = n.1
    · rw [if_pos (by simpa using e)] at h
      obtain ⟨k, _, hk⟩ := List.mem_flatMap.mp h
      obtain ⟨h1, h2, h3, h4⟩ := mem_childrenAt.mp hk
      exact ⟨r, hr, e, _, _, split_at h1, h2, h3, h4⟩
    · rw [if_neg (by simpa using e)] at h; simp at h
  · rintro ⟨r, hr, e, l1, l2, hs, h2, h3, h4⟩
    refine ⟨r, hr, ?_⟩
    rw [if_pos (by simpa using e)]
    refine List.mem_flatMap.mpr ⟨l1.length, ?_, mem_childrenAt.mpr ?_⟩
    · rw [hs]; simp
    · rw [hs]
      refine ⟨by simp, by simpa using h2, h3, ?_⟩
      have e2 : (l1 ++ Sym.non m.1 :: l2).drop (l1.length + 1) = l2 := by
        rw [List.drop_append]; simp
      rw [e2]; exact h4
theorem kid_node (h : Good g x t) {n m : Node} (k : Kid g x t n m) : m ∈ Vaglrc.nodesOf t := by
  obtain ⟨_, _, _, _, _, _, _, h3, _⟩ := k
  exact (mem_nodesOf h).mpr h3
theorem below_links {n : Node} (hn : n ∈ Vaglrc.nodesOf t) : Vaglrc.below (Vaglrc.links g x t) n = Vaglrc.children g x t n := by
  unfold Vaglrc.below Vaglrc.links
  rw [List.find?_map]
  cases h : (Vaglrc.nodesOf t).find? ((fun k : Vaglrc.Link => Vaglrc.sameNode k.1 n) ∘ fun n => (n, Vaglrc.children g x t n)) with
  | none =>
    have := List.find?_eq_none.mp h n hn
    simp [sameNode_iff] at this
  | some m =>
    have := List.find?_some h
    have e : m = n := sameNode_iff.mp this
    subst e
    rfl

/-! ### ways down -/
inductive Star (R : Node → Node → Prop) : Node → Node → Prop where
  | refl {a : Node} : Star R a a
  | head {a b c : Node} : R a b → Star R b c → Star R a c
def Plus (R : Node → Node → Prop) (a c : Node) : Prop := ∃ b, R a b ∧ Star R b c
theorem Star.trans {R : Node → Node → Prop} {a b c : Node} (h : Star R a b) (k : Star R b c) : Star R a c := by
  induction h with
  | refl => exact k
  | head r _ ih => exact .head r (ih k)
theorem Star.one {R : Node → Node → Prop} {a b : Node} (h : R a b) : Star R a b := .head h .refl
theorem Star.mono {R S : Node → Node → Prop} {a b : Node} (h : Star R a b) (f : ∀ a b, R a b → S a b) : Star S a b := by
  induction h with
  | refl => exact .refl
  | head r _ ih => exact .head (f _ _ r) ih
/-- .. over the same piece -/
def Same (g : Grammar) (x : List Nat) (t : Vaglrc.Spans) (n m : Node) : Prop := Kid g x t n m ∧ m.2 = n.2
theorem Star.piece {n m : Node} (h : Star (Same g x t) n m) : m.2 = n.2 := by
  induction h with
  | refl => rfl
  | head r _ ih => rw [ih, r.2]
theorem star_node (h : Good g x t) {n m : Node} (hn : n ∈ Vaglrc.nodesOf t) (s : Star (Kid g x t) n m) : m ∈ Vaglrc.nodesOf t := by
  induction s with
  | refl => exact hn
  | head r _ ih => exact ih (kid_node h r)

def sameStep (l : List Vaglrc.Link) (i j : Nat) (s : List Node) : List Node := Vaglrc.onceNodes (s ++ (s.flatMap (Vaglrc.below l)).filter (fun n => n.2.1 == i && n.2.2 == j))
theorem mem_sameStep (h : Good g x t) {i j : Nat} {s : List Node} (hs : ∀ n ∈ s, n ∈ Vaglrc.nodesOf t ∧ n.2 = (i, j)) {m : Node} :
    m ∈ sameStep (Vaglrc.links g x t) i j s ↔ m ∈ s ∨ ∃ n ∈ s, Same g x t n m := by
  unfold sameStep
  rw [mem_onceNodes, List.mem_append, List.mem_filter, List.mem_flatMap]
  constructor
  · rintro (h1 | ⟨⟨n, hn, hm⟩, he⟩)
    · exact .inl h1
    · refine .inr ⟨n, hn, ?_⟩
      rw [below_links (hs n hn).1] at hm
      refine ⟨mem_children.mp hm, ?_⟩
      rw [(hs n hn).2]
      simp only [Bool.and_eq_true, beq_iff_eq] at he
      exact Prod.ext he.1 he.2
  · rintro (h1 | ⟨n, hn, k, e⟩)
    · exact .inl h1
    · refine .inr ⟨⟨n, hn, ?_⟩, ?_⟩
      · rw [below_links (hs n hn).1]
        exact mem_children.mpr k
      · rw [e, (hs n hn).2]; simp
theorem sameStep_ok (h : Good g x t) {i j : Nat} {s : List Node} (hs : ∀ n ∈ s, n ∈ Vaglrc.nodesOf t ∧ n.2 = (i, j)) : ∀ n ∈ sameStep (Vaglrc.links g x t) i j s, n ∈ Vaglrc.nodesOf t ∧ n.2 = (i, j) := by
  intro m hm
  rcases (mem_sameStep h hs).mp hm with h1 | ⟨n, hn, k⟩
  · exact hs m h1
  · exact ⟨kid_node h k.1, k.2.trans (hs n hn).2⟩
/-- what is reached is closed once there were as many rounds as nonterminals -/
theorem sameReach_iff (h : Good g x t) {i j : Nat} : ∀ (k : Nat) (s : List Node), (∀ n ∈ s, n ∈ Vaglrc.nodesOf t ∧ n.2 = (i, j)) →
    g.nons ≤ k + ((List.range g.nons).filter fun b => decide ((b, i, j) ∈ s)).length → ∀ m, m ∈ Vaglrc.sameReach (Vaglrc.links g x t) i j k s ↔ ∃ n ∈ s, Star (Same g x t) n m := by
  intro k
  induction k with
  | zero =>
    intro s hs hk m
    show m ∈ s ↔ _
    refine ⟨fun hm => ⟨m, hm, .refl⟩, ?_⟩
    rintro ⟨n, hn, st⟩
    have hm : m ∈ Vaglrc.nodesOf t := star_node h (hs n hn).1 (st.mono fun _ _ r => r.1)
    have hp : m.2 = (i, j) := st.piece.trans (hs n hn).2
    have hlt : m.1 < g.nons := (h.lim ((mem_nodesOf h).mp hm)).1
    have hall : (List.range g.nons).filter (fun b => decide ((b, i, j) ∈ s)) = List.range g.nons := by
      refine List.Sublist.eq_of_length_le List.filter_sublist ?_
      rw [List.length_range]; omega
    have : m.1 ∈ (List.range g.nons).filter (fun b => decide ((b, i, j) ∈ s)) := by rw [hall]; simpa using hlt
    have := of_decide_eq_true (List.mem_filter.mp this).2
    rw [← hp] at this
    exact this
  | succ k ih =>
    intro s hs hk m
    show m ∈ Vaglrc.sameReach (Vaglrc.links g x t) i j k (sameStep (Vaglrc.links g x t) i j s) ↔ _
    have ok := sameStep_ok h hs
    have closeIff : (∃ n ∈ sameStep (Vaglrc.links g x t) i j s, Star (Same g x t) n m) ↔ ∃ n ∈ s, Star (Same g x t) n m := by
      constructor
      · rintro ⟨n, hn, st⟩
        rcases (mem_sameStep h hs).mp hn with h1 | ⟨n', hn', k'⟩
        · exact ⟨n, h1, st⟩
        · exact ⟨n', hn', .head k' st⟩
      · rintro ⟨n, hn, st⟩
        exact ⟨n, (mem_sameStep h hs).mpr (.inl hn), st⟩
    rw [← closeIff]
    by_cases hc : ∀ n ∈ sameStep (Vaglrc.links g x t) i j s, n ∈ s
    · -- closed already
      have hcl : ∀ n ∈ s, ∀ m, Star (Same g x t) n m → m ∈ s := by
        intro n hn m st
        induction st with
        | refl => exact hn
        | head r _ ih2 => exact ih2 (hc _ ((mem_sameStep h hs).mpr (.inr ⟨_, hn, r⟩)))
      have go : ∀ (k : Nat) (s' : List Node), (∀ n, n ∈ s' ↔ n ∈ s) → ∀ n, n ∈ Vaglrc.sameReach (Vaglrc.links g x t) i j k s' ↔ n ∈ s := by
        intro k
        induction k with
        | zero => intro s' e; exact e
        | succ k ih3 =>
          intro s' e
          have hs' : ∀ n ∈ s', n ∈ Vaglrc.nodesOf t ∧ n.2 = (i, j) := fun n hn => hs n ((e n).mp hn)
          refine ih3 _ fun n => ?_
          rw [show (n ∈ Vaglrc.onceNodes (s' ++ (s'.flatMap (Vaglrc.below (Vaglrc.links g x t))).filter (fun n => n.2.1 == i && n.2.2 == j))) ↔ _ from mem_sameStep h hs']
          constructor
          · rintro (h1 | ⟨n', hn', k'⟩)
            · exact (e n).mp h1
            · exact hcl n' ((e n').mp hn') n (.one k')
          · intro hn
            exact .inl ((e n).mpr hn)
      rw [go k _ fun n => ⟨fun hn => hc n hn, fun hn => (mem_sameStep h hs).mpr (.inl hn)⟩]
      constructor
      · intro hm
        exact ⟨m, (mem_sameStep h hs).mpr (.inl hm), .refl⟩
      · rintro ⟨n, hn, st⟩
        exact hcl n (hc n hn) m st
    · refine ih _ ok ?_ m
      have hlt : ((List.range g.nons).filter fun b => decide ((b, i, j) ∈ s)).length < ((List.range g.nons).filter fun b => decide ((b, i, j) ∈ sameStep (Vaglrc.links g x t) i j s)).length := by
        refine filter_lt (fun b _ hb => decide_eq_true ((mem_sameStep h hs).mpr (.inl (of_decide_eq_true hb)))) ?_
        apply Classical.byContradiction
        intro hno
        apply hc
        intro n hn
        apply Classical.byContradiction
        intro hns
        have ok1 := ok n hn
        have hnl := (h.lim ((mem_nodesOf h).mp ok1.1)).1
        have en : n = (n.1, i, j) := by rw [← ok1.2]
        exact hno ⟨n.1, by simpa using hnl, decide_eq_true (by rw [← en]; exact hn), decide_eq_false (by rw [← en]; exact hns)⟩
      omega
theorem cyclic_iff (h : Good g x t) {n : Node} (hn : n ∈ Vaglrc.nodesOf t) : Vaglrc.cyclic (Vaglrc.links g x t) g.nons n = true ↔ Plus (Same g x t) n n := by
  have hs : ∀ m ∈ (Vaglrc.below (Vaglrc.links g x t) n).filter (fun m => m.2.1 == n.2.1 && m.2.2 == n.2.2), m ∈ Vaglrc.nodesOf t ∧ m.2 = (n.2.1, n.2.2) := by
    intro m hm
    obtain ⟨h1, h2⟩ := List.mem_filter.mp hm
    rw [below_links hn] at h1
    simp only [Bool.and_eq_true, beq_iff_eq] at h2
    exact ⟨kid_node h (mem_children.mp h1), Prod.ext h2.1 h2.2⟩
  unfold Vaglrc.cyclic
  rw [hasNode_iff, sameReach_iff h _ _ hs (Nat.le_add_right _ _)]
  constructor
  · rintro ⟨m, hm, st⟩
    obtain ⟨h1, _⟩ := List.mem_filter.mp hm
    rw [below_links hn] at h1
    exact ⟨m, ⟨mem_children.mp h1, (hs m hm).2⟩, st⟩
  · rintro ⟨m, k, st⟩
    refine ⟨m, List.mem_filter.mpr ⟨?_, ?_⟩, st⟩
    · rw [below_links hn]
      exact mem_children.mpr k.1
    · have := k.2
      rw [this]; simp

/-! ### what spreads upward -/
theorem filter_sub {α : Type} {p q : α → Bool} : ∀ {l : List α}, (∀ z ∈ l, p z = true → q z = true) → (l.filter p).Sublist (l.filter q)
  | [], _ => by simp
  | y :: l, h => by
    have ih := filter_sub (l := l) fun z hz => h z (List.mem_cons_of_mem _ hz)
    rw [List.filter_cons, List.filter_cons]
    by_cases h1 : p y = true
    · rw [if_pos h1, if_pos (h y List.mem_cons_self h1)]
      exact ih.cons_cons y
    · rw [if_neg h1]
      split
      · exact ih.cons y
      · exact ih
def spreadP (s : List Node) (m : Vaglrc.Link) : Bool := Vaglrc.hasNode m.1 s || m.2.any (fun n => Vaglrc.hasNode n s)
theorem spreadP_iff {s : List Node} {m : Vaglrc.Link} : spreadP s m = true ↔ m.1 ∈ s ∨ ∃ n ∈ m.2, n ∈ s := by
  unfold spreadP
  simp only [Bool.or_eq_true, hasNode_iff, List.any_eq_true]
theorem spread_spec {l : List Vaglrc.Link} : ∀ (k : Nat) (p : Vaglrc.Link → Bool), l.length < k + ((l.filter p).map (·.1)).length →
    let s := (l.filter p).map (·.1)
    let u := Vaglrc.spread l k s
    (∀ n ∈ s, n ∈ u) ∧ (∀ m ∈ l, spreadP u m = true → m.1 ∈ u) ∧ ∀ (G : Node → Prop), (∀ n ∈ s, G n) → (∀ m ∈ l, (∃ n ∈ m.2, G n) → G m.1) → ∀ n ∈ u, G n := by
  intro k
  induction k with
  | zero =>
    intro p hk
    have := List.length_filter_le p l
    rw [List.length_map] at hk
    omega
  | succ k ih =>
    intro p hk s u
    have e : u = if (((l.filter (spreadP s)).map (·.1)).length == s.length) = true then s else Vaglrc.spread l k ((l.filter (spreadP s)).map (·.1)) := rfl
    have hpq : ∀ m ∈ l, p m = true → spreadP s m = true := fun m hm hp => spreadP_iff.mpr (.inl (List.mem_map.mpr ⟨m, List.mem_filter.mpr ⟨hm, hp⟩, rfl⟩))
    have hsub : s.Sublist ((l.filter (spreadP s)).map (·.1)) := (filter_sub hpq).map _
    by_cases hl : ((l.filter (spreadP s)).map (·.1)).length = s.length
    · rw [if_pos (by simpa using hl)] at e
      have es : s = (l.filter (spreadP s)).map (·.1) := hsub.eq_of_length hl.symm
      rw [e]
      refine ⟨fun n hn => hn, fun m hm hp => ?_, fun G h1 h2 => h1⟩
      have : m.1 ∈ (l.filter (spreadP s)).map (·.1) := List.mem_map.mpr ⟨m, List.mem_filter.mpr ⟨hm, hp⟩, rfl⟩
      rw [es]; exact this
    · rw [if_neg (by simpa using hl)] at e
      have hle := hsub.length_le
      have hk2 : ((l.filter p).map (·.1)).length = s.length := rfl
      obtain ⟨i1, i2, i3⟩ := ih (spreadP s) (by omega)
      rw [e]
      refine ⟨fun n hn => i1 n (hsub.subset hn), i2, fun G h1 h2 => i3 G (fun n hn => ?_) h2⟩
      obtain ⟨m, hm, rfl⟩ := List.mem_map.mp hn
      obtain ⟨hm1, hm2⟩ := List.mem_filter.mp hm
      rcases spreadP_iff.mp hm2 with h3 | ⟨n', hn', h3⟩
      · exact h1 _ h3
      · exact h2 m hm1 ⟨n', hn', h1 _ h3⟩
/-- a node beneath which, or at which, one stands beneath itself -/
def Endless (g : Grammar) (x : List Nat) (t : Vaglrc.Spans) (n : Node) : Prop := ∃ c, Star (Kid g x t) n c ∧ Plus (Same g x t) c c
theorem mem_infinite (h : Good g x t) {n : Node} : n ∈ Vaglrc.infinite g (Vaglrc.links g x t) ↔ n ∈ Vaglrc.nodesOf t ∧ Endless g x t n := by
  have hl : ∀ m, m ∈ Vaglrc.links g x t ↔ m.1 ∈ Vaglrc.nodesOf t ∧ m.2 = Vaglrc.children g x t m.1 := by
    intro m
    unfold Vaglrc.links
    rw [List.mem_map]
    constructor
    · rintro ⟨n, hn, rfl⟩; exact ⟨hn, rfl⟩
    · rintro ⟨hn, e⟩; exact ⟨m.1, hn, by rw [← e]⟩
  have hcyc : ∀ c, c ∈ Vaglrc.cyclicNodes g (Vaglrc.links g x t) ↔ c ∈ Vaglrc.nodesOf t ∧ Plus (Same g x t) c c := by
    intro c
    unfold Vaglrc.cyclicNodes
    rw [List.mem_map]
    constructor
    · rintro ⟨m, hm, rfl⟩
      obtain ⟨h1, h2⟩ := List.mem_filter.mp hm
      have h1' := ((hl m).mp h1).1
      exact ⟨h1', (cyclic_iff h h1').mp h2⟩
    · rintro ⟨h1, h2⟩
      exact ⟨(c, Vaglrc.children g x t c), List.mem_filter.mpr ⟨(hl _).mpr ⟨h1, rfl⟩, (cyclic_iff h h1).mpr h2⟩, rfl⟩
  obtain ⟨i1, i2, i3⟩ := spread_spec (l := Vaglrc.links g x t) ((Vaglrc.links g x t).length + 1) (fun m => Vaglrc.cyclic (Vaglrc.links g x t) g.nons m.1) (by omega)
  constructor
  · intro hn
    refine i3 (fun n => n ∈ Vaglrc.nodesOf t ∧ Endless g x t n) (fun n hn => ?_) (fun m hm => ?_) n hn
    · obtain ⟨h1, h2⟩ := (hcyc n).mp hn
      exact ⟨h1, n, .refl, h2⟩
    · rintro ⟨n', hn', _, c, st, pl⟩
      obtain ⟨h1, h2⟩ := (hl m).mp hm
      rw [h2] at hn'
      exact ⟨h1, c, .head (mem_children.mp hn') st, pl⟩
  · rintro ⟨hn, c, st, pl⟩
    have hc : c ∈ Vaglrc.nodesOf t := star_node h hn st
    induction st with
    | refl => exact i1 _ ((hcyc _).mpr ⟨hn, pl⟩)
    | @head a b c r st ih =>
      have hb := ih (kid_node h r) pl hc
      exact i2 (a, Vaglrc.children g x t a) ((hl _).mpr ⟨hn, rfl⟩) (spreadP_iff.mpr (.inr ⟨b, mem_children.mpr r, hb⟩))

/-! ### the rings by trimming -/
theorem nodup_len : ∀ {n : Nat} {l : List Nat}, l.Nodup → (∀ y ∈ l, y < n) → l.length ≤ n
  | 0, [], _, _ => Nat.le_refl _
  | 0, y :: l, _, h => absurd (h y List.mem_cons_self) (by omega)
  | n + 1, l, hd, h => by
    have h1 : (l.erase n).length ≤ n := nodup_len (hd.erase n) fun y hy => by
      have h2 := h y (List.mem_of_mem_erase hy)
      have h3 : y ≠ n := by
        rintro rfl
        exact (List.Nodup.mem_erase_iff hd).mp hy |>.1 rfl
      omega
    by_cases hm : n ∈ l
    · rw [List.length_erase_of_mem hm] at h1; omega
    · rw [List.erase_of_not_mem hm] at h1; omega
def Ch (R : Node → Node → Prop) : List Node → Prop
  | [] => True
  | [_] => True
  | a :: b :: l => R a b ∧ Ch R (b :: l)
theorem ch_plus {R : Node → Node → Prop} : ∀ {l : List Node} {a : Node}, Ch R (a :: l) → ∀ b ∈ l, Plus R a b
  | [], a, _, b, hb => by simp at hb
  | c :: l, a, ⟨r, h⟩, b, hb => by
    rcases List.mem_cons.mp hb with e | hb
    · subst e; exact ⟨b, r, .refl⟩
    · obtain ⟨d, r2, s⟩ := ch_plus h b hb
      exact ⟨c, r, .head r2 s⟩
theorem ch_tail {R : Node → Node → Prop} : ∀ {l : List Node} {a : Node}, Ch R (a :: l) → Ch R l
  | [], _, _ => trivial
  | _ :: _, _, ⟨_, h⟩ => h
theorem ch_nodup {R : Node → Node → Prop} (hno : ∀ c, ¬ Plus R c c) : ∀ {l : List Node}, Ch R l → l.Nodup
  | [], _ => by simp
  | a :: l, h => by
    refine List.nodup_cons.mpr ⟨fun ha => hno a (ch_plus h a ha), ch_nodup hno (ch_tail h)⟩
theorem ch_piece : ∀ {l : List Node} {a : Node}, Ch (Same g x t) (a :: l) → ∀ b ∈ l, b.2 = a.2 := fun h b hb => by
  obtain ⟨d, r, s⟩ := ch_plus h b hb
  rw [s.piece, r.2]
/-- those that have one of the others just beneath them over the same piece -/
def trim (same : Node → List Node) (left : List Node) : List Node := left.filter fun n => (same n).any fun m => decide (m ∈ left)
def trims (same : Node → List Node) : Nat → List Node → List Node
  | 0, l => l
  | k + 1, l => trims same k (trim same l)
theorem trims_succ {same : Node → List Node} : ∀ (k : Nat) (l : List Node), trims same (k + 1) l = trim same (trims same k l)
  | 0, _ => rfl
  | k + 1, l => by
    show trims same (k + 1) (trim same l) = _
    rw [trims_succ k]; rfl
theorem mem_trim {same : Node → List Node} {left : List Node} {n : Node} : n ∈ trim same left ↔ n ∈ left ∧ ∃ m ∈ same n, m ∈ left := by
  unfold trim
  simp only [List.mem_filter, List.any_eq_true, decide_eq_true_eq]
/-- the ring test is exact -/
theorem ring_iff (h : Good g x t) {keys : List Node} {same : Node → List Node} {whole : Node} (hw : whole ∈ Vaglrc.nodesOf t)
    (hk : ∀ n, n ∈ keys ↔ Star (Kid g x t) whole n) (hs : ∀ n ∈ keys, ∀ m, m ∈ same n ↔ Same g x t n m) :
    0 < (trims same g.nons keys).length ↔ Endless g x t whole := by
  have sub : ∀ k n, n ∈ trims same k keys → n ∈ keys := by
    intro k
    induction k with
    | zero => intro n hn; exact hn
    | succ k ih =>
      intro n hn
      rw [trims_succ] at hn
      exact ih n (mem_trim.mp hn).1
  constructor
  · intro hp
    obtain ⟨n, hn⟩ : ∃ n, n ∈ trims same g.nons keys := by
      cases e : trims same g.nons keys with
      | nil => rw [e] at hp; simp at hp
      | cons n l => exact ⟨n, by simp⟩
    have chain : ∀ k n, n ∈ trims same k keys → ∃ l, l.length = k ∧ Ch (Same g x t) (n :: l) := by
      intro k
      induction k with
      | zero => intro n _; exact ⟨[], rfl, trivial⟩
      | succ k ih =>
        intro n hn
        rw [trims_succ] at hn
        obtain ⟨h1, m, hm, h2⟩ := mem_trim.mp hn
        obtain ⟨l, hl, hc⟩ := ih m h2
        exact ⟨m :: l, by simp [hl], (hs n (sub k n h1) m).mp hm, hc⟩
    obtain ⟨l, hl, hc⟩ := chain _ n hn
    have hnk := sub _ n hn
    apply Classical.byContradiction
    intro hno
    have hno2 : ¬ (n :: l).Nodup := by
      intro hd
      have hd2 : ((n :: l).map (·.1)).Nodup := by
        refine List.Pairwise.map _ (fun a b (hab : a.2 = b.2 ∧ a ≠ b) e => hab.2 (Prod.ext e hab.1)) ?_
        have pc : ∀ b ∈ n :: l, b.2 = n.2 := fun b hb => by
          rcases List.mem_cons.mp hb with e | hb
          · rw [e]
          · exact ch_piece hc b hb
        exact List.Pairwise.imp_of_mem (fun {a b} ha hb hab => ⟨(pc a ha).trans (pc b hb).symm, hab⟩) hd
      have hb : ∀ y ∈ (n :: l).map (·.1), y < g.nons := by
        intro y hy
        obtain ⟨m, hm, rfl⟩ := List.mem_map.mp hy
        have hmn : m ∈ Vaglrc.nodesOf t := by
          have st : Star (Kid g x t) whole n := (hk n).mp hnk
          rcases List.mem_cons.mp hm with e | hm
          · rw [e]; exact star_node h hw st
          · obtain ⟨d, r, s⟩ := ch_plus hc m hm
            exact star_node h hw (st.trans (.head r.1 (s.mono fun _ _ r => r.1)))
        exact (h.lim ((mem_nodesOf h).mp hmn)).1
      have := nodup_len hd2 hb
      simp [hl] at this
      omega
    -- so there is a ring
    have : ∃ c ∈ n :: l, Plus (Same g x t) c c := by
      clear hno hl hn
      have go : ∀ (l : List Node), Ch (Same g x t) l → ¬ l.Nodup → ∃ c ∈ l, Plus (Same g x t) c c := by
        intro l
        induction l with
        | nil => intro _ h; simp at h
        | cons a l ih =>
          intro hc hd
          by_cases ha : a ∈ l
          · exact ⟨a, by simp, ch_plus hc a ha⟩
          · obtain ⟨c, hcm, hp⟩ := ih (ch_tail hc) fun q => hd (List.nodup_cons.mpr ⟨ha, q⟩)
            exact ⟨c, List.mem_cons_of_mem _ hcm, hp⟩
      exact go _ hc hno2
    obtain ⟨c, hcm, hp⟩ := this
    refine hno ⟨c, ?_, hp⟩
    have st : Star (Kid g x t) whole n := (hk n).mp hnk
    rcases List.mem_cons.mp hcm with e | hm
    · rw [e]; exact st
    · obtain ⟨d, r, s⟩ := ch_plus hc c hm
      exact st.trans (.head r.1 (s.mono fun _ _ r => r.1))
  · rintro ⟨c, st, m, r, pl⟩
    have hc : c ∈ keys := (hk c).mpr st
    -- all that c reaches over the same piece, and that reach c, stay
    have stay : ∀ k n, Star (Same g x t) c n → Star (Same g x t) n c → n ∈ trims same k keys := by
      intro k
      induction k with
      | zero =>
        intro n s1 _
        exact (hk n).mpr (st.trans (s1.mono fun _ _ r => r.1))
      | succ k ih =>
        intro n s1 s2
        rw [trims_succ]
        have hn := ih n s1 s2
        refine mem_trim.mpr ⟨hn, ?_⟩
        have hnk := sub k n hn
        cases s2 with
        | refl => exact ⟨m, (hs _ hnk m).mpr r, ih m (.one r) pl⟩
        | @head _ b _ r2 s3 => exact ⟨b, (hs _ hnk b).mpr r2, ih b (s1.trans (.one r2)) s3⟩
    have := stay g.nons c .refl .refl
    exact List.length_pos_of_mem this
end
end TR
set_option linter.all false
/-! Counts of trees: which are none, which are not 0. -/
namespace TR
open Vaglrc (Sym Rule Grammar Node Count Counts Table)

/-! ### a count is not 0; it is infinite -/
def NZ (c : Count) : Prop := c ≠ some 0
def IN (c : Count) : Prop := c = none
theorem nz_plus {a b : Count} : NZ (Vaglrc.plus a b) ↔ NZ a ∨ NZ b := by
  cases a <;> cases b <;> simp [NZ, Vaglrc.plus] <;> omega
theorem in_plus {a b : Count} : IN (Vaglrc.plus a b) ↔ IN a ∨ IN b := by
  cases a <;> cases b <;> simp [IN, Vaglrc.plus]
theorem nz_times {a b : Count} : NZ (Vaglrc.times a b) ↔ NZ a ∧ NZ b := by
  cases a with
  | none => cases b with
    | none => simp [NZ, Vaglrc.times]
    | some n => cases n <;> simp [NZ, Vaglrc.times]
  | some m => cases b with
    | none => cases m <;> simp [NZ, Vaglrc.times]
    | some n => simp [NZ, Vaglrc.times, Nat.mul_eq_zero]
theorem in_times {a b : Count} : IN (Vaglrc.times a b) ↔ (IN a ∧ NZ b) ∨ (NZ a ∧ IN b) := by
  cases a with
  | none => cases b with
    | none => simp [NZ, IN, Vaglrc.times]
    | some n => cases n <;> simp [NZ, IN, Vaglrc.times]
  | some m => cases b with
    | none => cases m <;> simp [NZ, IN, Vaglrc.times]
    | some n => simp [NZ, IN, Vaglrc.times]
theorem finite_pos {c : Count} : 0 < Vaglrc.finite c ↔ NZ c ∧ ¬ IN c := by
  cases c with
  | none => simp [Vaglrc.finite, NZ, IN]
  | some n => simp [Vaglrc.finite, NZ, IN]; omega

/-! ### counts by places -/
abbrev KUp (l : Counts) : Prop := l.Pairwise fun p q => p.1 < q.1
theorem lookAt_nil {j : Nat} : Vaglrc.lookAt j [] = some 0 := rfl
theorem lookAt_cons {j : Nat} {p : Nat × Count} {l : Counts} : Vaglrc.lookAt j (p :: l) = if p.1 = j then p.2 else Vaglrc.lookAt j l := by
  unfold Vaglrc.lookAt
  rw [List.find?_cons]
  by_cases h : p.1 = j
  · rw [if_pos h]; simp [h]
  · rw [if_neg h]
    have : (p.1 == j) = false := by simpa using h
    rw [this]
theorem lookAt_out {j : Nat} : ∀ {l : Counts}, (∀ p ∈ l, p.1 ≠ j) → Vaglrc.lookAt j l = some 0
  | [], _ => rfl
  | p :: l, h => by
    rw [lookAt_cons, if_neg (h p List.mem_cons_self), lookAt_out fun q hq => h q (List.mem_cons_of_mem _ hq)]
theorem plus_zero {c : Count} : Vaglrc.plus (some 0) c = c := by cases c <;> simp [Vaglrc.plus]
theorem addAt_keys {j : Nat} {c : Count} : ∀ {l : Counts} {p : Nat × Count}, p ∈ Vaglrc.addAt j c l → p.1 = j ∨ ∃ q ∈ l, q.1 = p.1
  | [], p, h => by
    have : p = (j, c) := by simpa [Vaglrc.addAt] using h
    exact .inl (by rw [this])
  | q :: l, p, h => by
    unfold Vaglrc.addAt at h
    split at h
    · rcases List.mem_cons.mp h with e | h
      · exact .inl (by rw [e])
      · exact .inr ⟨p, h, rfl⟩
    · split at h
      · rename_i h1 h2
        have e2 : j = q.1 := by simpa using h2
        rcases List.mem_cons.mp h with e | h
        · exact .inl (by rw [e])
        · exact .inr ⟨p, List.mem_cons_of_mem _ h, rfl⟩
      · rcases List.mem_cons.mp h with e | h
        · exact .inr ⟨q, List.mem_cons_self, by rw [e]⟩
        · rcases addAt_keys h with e | ⟨r, hr, e⟩
          · exact .inl e
          · exact .inr ⟨r, List.mem_cons_of_mem _ hr, e⟩
theorem addAt_up {j : Nat} {c : Count} : ∀ {l : Counts}, KUp l → KUp (Vaglrc.addAt j c l)
  | [], _ => by simp [Vaglrc.addAt]
  | q :: l, h => by
    have h' := List.pairwise_cons.mp h
    unfold Vaglrc.addAt
    split
    · rename_i hj
      refine List.pairwise_cons.mpr ⟨fun p hp => ?_, h⟩
      rcases List.mem_cons.mp hp with e | hp
      · rw [e]; exact hj
      · exact Nat.lt_trans hj (h'.1 p hp)
    · split
      · rename_i h1 h2
        have e2 : j = q.1 := by simpa using h2
        refine List.pairwise_cons.mpr ⟨fun p hp => ?_, h'.2⟩
        show j < p.1
        rw [e2]; exact h'.1 p hp
      · rename_i h1 h2
        have e2 : j ≠ q.1 := by simpa using h2
        refine List.pairwise_cons.mpr ⟨fun p hp => ?_, addAt_up h'.2⟩
        rcases addAt_keys hp with e | ⟨r, hr, e⟩
        · rw [e]; omega
        · rw [← e]; exact h'.1 r hr
theorem lookAt_addAt {j k : Nat} {c : Count} : ∀ {l : Counts}, KUp l → Vaglrc.lookAt j (Vaglrc.addAt k c l) = if j = k then Vaglrc.plus (Vaglrc.lookAt k l) c else Vaglrc.lookAt j l
  | [], _ => by
    show Vaglrc.lookAt j [(k, c)] = _
    rw [lookAt_cons]
    by_cases h : j = k
    · rw [if_pos h.symm, if_pos h]
      exact plus_zero.symm
    · rw [if_neg (Ne.symm h), if_neg h]
  | q :: l, h => by
    have h' := List.pairwise_cons.mp h
    unfold Vaglrc.addAt
    split
    · rename_i hk
      have hout : Vaglrc.lookAt k (q :: l) = some 0 := lookAt_out fun p hp => by
        rcases List.mem_cons.mp hp with e | hp
        · rw [e]; omega
        · have := h'.1 p hp; omega
      rw [lookAt_cons]
      by_cases e : j = k
      · rw [if_pos e.symm, if_pos e, hout, plus_zero]
      · rw [if_neg (Ne.symm e), if_neg e]
    · split
      · rename_i h1 h2
        have e2 : k = q.1 := by simpa using h2
        rw [lookAt_cons]
        by_cases e : j = k
        · rw [if_pos e.symm, if_pos e, lookAt_cons, if_pos e2.symm]
        · rw [if_neg (Ne.symm e), if_neg e, lookAt_cons, if_neg (by rw [← e2]; exact Ne.symm e)]
      · rename_i h1 h2
        have e2 : k ≠ q.1 := by simpa using h2
        rw [lookAt_cons, lookAt_addAt h'.2]
        by_cases e : q.1 = j
        · rw [if_pos e, if_neg (by rw [← e]; exact Ne.symm e2), lookAt_cons, if_pos e]
        · rw [if_neg e, lookAt_cons, if_neg (Ne.symm e2), lookAt_cons, if_neg e]

section
variable {g : Grammar} {x : List Nat} {c : Table}
/-- one symbol further, on the way -/
theorem inner_fold {m : Count} : ∀ {qs : Counts} {acc : Counts}, KUp acc → KUp (qs.foldl (fun a q => Vaglrc.addAt q.1 (Vaglrc.times m q.2) a) acc) ∧ ∀ j,
    (NZ (Vaglrc.lookAt j (qs.foldl (fun a q => Vaglrc.addAt q.1 (Vaglrc.times m q.2) a) acc)) ↔ NZ (Vaglrc.lookAt j acc) ∨ ∃ q ∈ qs, q.1 = j ∧ NZ (Vaglrc.times m q.2)) ∧
    (IN (Vaglrc.lookAt j (qs.foldl (fun a q => Vaglrc.addAt q.1 (Vaglrc.times m q.2) a) acc)) ↔ IN (Vaglrc.lookAt j acc) ∨ ∃ q ∈ qs, q.1 = j ∧ IN (Vaglrc.times m q.2)) := by
  intro qs
  induction qs with
  | nil => intro acc h; exact ⟨h, fun j => by simp⟩
  | cons q qs ih =>
    intro acc h
    obtain ⟨i1, i2⟩ := ih (acc := Vaglrc.addAt q.1 (Vaglrc.times m q.2) acc) (addAt_up h)
    refine ⟨i1, fun j => ?_⟩
    obtain ⟨n1, n2⟩ := i2 j
    rw [List.foldl_cons, n1, n2, lookAt_addAt h]
    by_cases e : j = q.1
    · rw [if_pos e, nz_plus, in_plus, e]
      simp only [List.mem_cons]
      constructor
      · constructor
        · rintro ((h1 | h1) | ⟨r, hr, e2, h1⟩)
          · exact .inl h1
          · exact .inr ⟨q, .inl rfl, rfl, h1⟩
          · exact .inr ⟨r, .inr hr, e2, h1⟩
        · rintro (h1 | ⟨r, rfl | hr, e2, h1⟩)
          · exact .inl (.inl h1)
          · exact .inl (.inr h1)
          · exact .inr ⟨r, hr, e2, h1⟩
      · constructor
        · rintro ((h1 | h1) | ⟨r, hr, e2, h1⟩)
          · exact .inl h1
          · exact .inr ⟨q, .inl rfl, rfl, h1⟩
          · exact .inr ⟨r, .inr hr, e2, h1⟩
        · rintro (h1 | ⟨r, rfl | hr, e2, h1⟩)
          · exact .inl (.inl h1)
          · exact .inl (.inr h1)
          · exact .inr ⟨r, hr, e2, h1⟩
    · rw [if_neg e]
      simp only [List.mem_cons]
      constructor
      · constructor
        · rintro (h1 | ⟨r, hr, e2, h1⟩)
          · exact .inl h1
          · exact .inr ⟨r, .inr hr, e2, h1⟩
        · rintro (h1 | ⟨r, rfl | hr, e2, h1⟩)
          · exact .inl h1
          · exact absurd e2.symm e
          · exact .inr ⟨r, hr, e2, h1⟩
      · constructor
        · rintro (h1 | ⟨r, hr, e2, h1⟩)
          · exact .inl h1
          · exact .inr ⟨r, .inr hr, e2, h1⟩
        · rintro (h1 | ⟨r, rfl | hr, e2, h1⟩)
          · exact .inl h1
          · exact absurd e2.symm e
          · exact .inr ⟨r, hr, e2, h1⟩
theorem further_spec {s : Sym} : ∀ {l acc : Counts}, KUp acc →
    let r := l.foldl (fun acc p => (Vaglrc.symCounts x c s p.1).foldl (fun a q => Vaglrc.addAt q.1 (Vaglrc.times p.2 q.2) a) acc) acc
    KUp r ∧ ∀ j, (NZ (Vaglrc.lookAt j r) ↔ NZ (Vaglrc.lookAt j acc) ∨ ∃ p ∈ l, ∃ q ∈ Vaglrc.symCounts x c s p.1, q.1 = j ∧ NZ (Vaglrc.times p.2 q.2)) ∧
      (IN (Vaglrc.lookAt j r) ↔ IN (Vaglrc.lookAt j acc) ∨ ∃ p ∈ l, ∃ q ∈ Vaglrc.symCounts x c s p.1, q.1 = j ∧ IN (Vaglrc.times p.2 q.2)) := by
  intro l
  induction l with
  | nil => intro acc h; exact ⟨h, fun j => by simp⟩
  | cons p l ih =>
    intro acc h
    obtain ⟨f1, f2⟩ := inner_fold (m := p.2) (qs := Vaglrc.symCounts x c s p.1) h
    obtain ⟨i1, i2⟩ := ih f1
    refine ⟨i1, fun j => ?_⟩
    obtain ⟨n1, n2⟩ := i2 j
    obtain ⟨m1, m2⟩ := f2 j
    simp only [List.foldl_cons]
    rw [n1, n2, m1, m2]
    constructor
    · simp only [List.mem_cons, exists_eq_or_imp, or_assoc]
    · simp only [List.mem_cons, exists_eq_or_imp, or_assoc]
/-- a way whose counts are not 0; one of them infinite -/
def PNZ (x : List Nat) (c : Table) : List Sym → Nat → Nat → Prop
  | [], p, j => p = j
  | s :: l, p, j => ∃ q ∈ Vaglrc.symCounts x c s p, NZ q.2 ∧ PNZ x c l q.1 j
def PIN (x : List Nat) (c : Table) : List Sym → Nat → Nat → Prop
  | [], _, _ => False
  | s :: l, p, j => ∃ q ∈ Vaglrc.symCounts x c s p, (IN q.2 ∧ PNZ x c l q.1 j) ∨ (NZ q.2 ∧ PIN x c l q.1 j)
theorem lookAt_mem {j : Nat} {l : Counts} (h : KUp l) (P : Count → Prop) (h0 : ¬ P (some 0)) : P (Vaglrc.lookAt j l) ↔ ∃ p ∈ l, p.1 = j ∧ P p.2 := by
  induction l with
  | nil => simp [lookAt_nil, h0]
  | cons p l ih =>
    have h' := List.pairwise_cons.mp h
    rw [lookAt_cons]
    by_cases e : p.1 = j
    · rw [if_pos e]
      constructor
      · intro hp; exact ⟨p, List.mem_cons_self, e, hp⟩
      · rintro ⟨q, hq, e2, hp⟩
        rcases List.mem_cons.mp hq with e3 | hq
        · rw [← e3]; exact hp
        · have := h'.1 q hq; omega
    · rw [if_neg e, ih h'.2]
      constructor
      · rintro ⟨q, hq, e2, hp⟩; exact ⟨q, List.mem_cons_of_mem _ hq, e2, hp⟩
      · rintro ⟨q, hq, e2, hp⟩
        rcases List.mem_cons.mp hq with e3 | hq
        · rw [e3] at e2; exact absurd e2 e
        · exact ⟨q, hq, e2, hp⟩
theorem rowCounts_spec : ∀ {l : List Sym} {cs : Counts}, KUp cs → KUp (Vaglrc.rowCounts x c l cs) ∧ ∀ j,
    (NZ (Vaglrc.lookAt j (Vaglrc.rowCounts x c l cs)) ↔ ∃ p ∈ cs, NZ p.2 ∧ PNZ x c l p.1 j) ∧
    (IN (Vaglrc.lookAt j (Vaglrc.rowCounts x c l cs)) ↔ ∃ p ∈ cs, (IN p.2 ∧ PNZ x c l p.1 j) ∨ (NZ p.2 ∧ PIN x c l p.1 j)) := by
  intro l
  induction l with
  | nil =>
    intro cs h
    refine ⟨h, fun j => ⟨?_, ?_⟩⟩
    · show NZ (Vaglrc.lookAt j cs) ↔ _
      rw [lookAt_mem h NZ (by simp [NZ])]
      constructor
      · rintro ⟨p, hp, e, n⟩; exact ⟨p, hp, n, e⟩
      · rintro ⟨p, hp, n, e⟩; exact ⟨p, hp, e, n⟩
    · show IN (Vaglrc.lookAt j cs) ↔ _
      rw [lookAt_mem h IN (by simp [IN])]
      constructor
      · rintro ⟨p, hp, e, n⟩; exact ⟨p, hp, .inl ⟨n, e⟩⟩
      · rintro ⟨p, hp, ⟨n, e⟩ | ⟨_, e⟩⟩
        · exact ⟨p, hp, e, n⟩
        · exact e.elim
  | cons s l ih =>
    intro cs h
    obtain ⟨f1, f2⟩ := further_spec (x := x) (c := c) (s := s) (l := cs) (acc := []) (by simp)
    obtain ⟨i1, i2⟩ := ih f1
    refine ⟨i1, fun j => ?_⟩
    obtain ⟨n1, n2⟩ := i2 j
    have key1 : ∀ k, (∃ q, q ∈ Vaglrc.further x c s cs ∧ q.1 = k ∧ NZ q.2) ↔ ∃ p ∈ cs, ∃ q ∈ Vaglrc.symCounts x c s p.1, q.1 = k ∧ NZ (Vaglrc.times p.2 q.2) := by
      intro k
      have := (f2 k).1
      rw [lookAt_mem f1 NZ (by simp [NZ])] at this
      rw [show (∃ q, q ∈ Vaglrc.further x c s cs ∧ q.1 = k ∧ NZ q.2) ↔ _ from this]
      simp [lookAt_nil, NZ]
    have key2 : ∀ k, (∃ q, q ∈ Vaglrc.further x c s cs ∧ q.1 = k ∧ IN q.2) ↔ ∃ p ∈ cs, ∃ q ∈ Vaglrc.symCounts x c s p.1, q.1 = k ∧ IN (Vaglrc.times p.2 q.2) := by
      intro k
      have := (f2 k).2
      rw [lookAt_mem f1 IN (by simp [IN])] at this
      rw [show (∃ q, q ∈ Vaglrc.further x c s cs ∧ q.1 = k ∧ IN q.2) ↔ _ from this]
      simp [lookAt_nil, IN]
    constructor
    · rw [show NZ (Vaglrc.lookAt j (Vaglrc.rowCounts x c (s :: l) cs)) ↔ _ from n1]
      constructor
      · rintro ⟨q, hq, nq, pq⟩
        obtain ⟨p, hp, q', hq', e, nt⟩ := (key1 q.1).mp ⟨q, hq, rfl, nq⟩
        obtain ⟨np, nq'⟩ := nz_times.mp nt
        exact ⟨p, hp, np, q', hq', nq', by rw [e]; exact pq⟩
      · rintro ⟨p, hp, np, q', hq', nq', pq⟩
        obtain ⟨q, hq, e, nq⟩ := (key1 q'.1).mpr ⟨p, hp, q', hq', rfl, nz_times.mpr ⟨np, nq'⟩⟩
        exact ⟨q, hq, nq, by rw [e]; exact pq⟩
    · rw [show IN (Vaglrc.lookAt j (Vaglrc.rowCounts x c (s :: l) cs)) ↔ _ from n2]
      constructor
      · rintro ⟨q, hq, ⟨nq, pq⟩ | ⟨nq, pq⟩⟩
        · obtain ⟨p, hp, q', hq', e, nt⟩ := (key2 q.1).mp ⟨q, hq, rfl, nq⟩
          rcases in_times.mp nt with ⟨np, nq'⟩ | ⟨np, nq'⟩
          · exact ⟨p, hp, .inl ⟨np, q', hq', nq', by rw [e]; exact pq⟩⟩
          · exact ⟨p, hp, .inr ⟨np, q', hq', .inl ⟨nq', by rw [e]; exact pq⟩⟩⟩
        · obtain ⟨p, hp, q', hq', e, nt⟩ := (key1 q.1).mp ⟨q, hq, rfl, nq⟩
          obtain ⟨np, nq'⟩ := nz_times.mp nt
          exact ⟨p, hp, .inr ⟨np, q', hq', .inr ⟨nq', by rw [e]; exact pq⟩⟩⟩
      · rintro ⟨p, hp, ⟨np, q', hq', nq', pq⟩ | ⟨np, q', hq', ⟨nq', pq⟩ | ⟨nq', pq⟩⟩⟩
        · obtain ⟨q, hq, e, nq⟩ := (key2 q'.1).mpr ⟨p, hp, q', hq', rfl, in_times.mpr (.inl ⟨np, nq'⟩)⟩
          exact ⟨q, hq, .inl ⟨nq, by rw [e]; exact pq⟩⟩
        · obtain ⟨q, hq, e, nq⟩ := (key2 q'.1).mpr ⟨p, hp, q', hq', rfl, in_times.mpr (.inr ⟨np, nq'⟩)⟩
          exact ⟨q, hq, .inl ⟨nq, by rw [e]; exact pq⟩⟩
        · obtain ⟨q, hq, e, nq⟩ := (key1 q'.1).mpr ⟨p, hp, q', hq', rfl, nz_times.mpr ⟨np, nq'⟩⟩
          exact ⟨q, hq, .inr ⟨nq, by rw [e]; exact pq⟩⟩
theorem ways_nz {l : List Sym} {i j : Nat} : NZ (Vaglrc.ways x c l i j) ↔ PNZ x c l i j := by
  unfold Vaglrc.ways
  rw [((rowCounts_spec (x := x) (c := c) (l := l) (cs := [(i, some 1)]) (by simp)).2 j).1]
  simp [NZ]
theorem ways_in {l : List Sym} {i j : Nat} : IN (Vaglrc.ways x c l i j) ↔ PIN x c l i j := by
  unfold Vaglrc.ways
  rw [((rowCounts_spec (x := x) (c := c) (l := l) (cs := [(i, some 1)]) (by simp)).2 j).2]
  simp [NZ, IN]

/-! ### tables of counts -/
/-- a table over the places that are covered -/
structure Shape (g : Grammar) (x : List Nat) (t : Vaglrc.Spans) (c : Table) : Prop where
  form : ∃ F : Nat → Nat → Nat → Count, c = (List.range g.nons).map fun a => (List.range (x.length + 1)).map fun i => (Vaglrc.ends t a i).map fun j => (j, F a i j)
theorem rowOf_form {n m : Nat} {f : Nat → Nat → Counts} {a i : Nat} : Vaglrc.rowOf ((List.range n).map fun a => (List.range m).map fun i => f a i) a i = if a < n then (if i < m then f a i else []) else [] := by
  unfold Vaglrc.rowOf
  rw [getD_map_range]
  by_cases h : a < n
  · rw [if_pos h, if_pos h, getD_map_range]
  · rw [if_neg h, if_neg h]; rfl
variable {t : Vaglrc.Spans}
theorem lookAt_map {F : Nat → Count} {j : Nat} {l : List Nat} : Vaglrc.lookAt j (l.map fun j => (j, F j)) = if j ∈ l then F j else some 0 := by
  induction l with
  | nil => simp [lookAt_nil]
  | cons k l ih =>
    rw [List.map_cons, lookAt_cons, ih]
    by_cases e : k = j
    · subst e; simp
    · have e' : ¬ j = k := fun q => e q.symm
      simp [e, e']
theorem shape_count (h : Good g x t) {F : Nat → Nat → Nat → Count} {a i j : Nat} (m : j ∈ Vaglrc.ends t a i) :
    Vaglrc.countAt ((List.range g.nons).map fun a => (List.range (x.length + 1)).map fun i => (Vaglrc.ends t a i).map fun j => (j, F a i j)) a i j = F a i j := by
  unfold Vaglrc.countAt
  have l := h.lim m
  rw [rowOf_form, if_pos l.1, if_pos (by omega), lookAt_map, if_pos m]
theorem Shape.row (sh : Shape g x t c) (h : Good g x t) {a i : Nat} : Vaglrc.rowOf c a i = (Vaglrc.ends t a i).map fun j => (j, Vaglrc.countAt c a i j) := by
  obtain ⟨F, hF⟩ := sh.form
  have e1 : Vaglrc.rowOf c a i = (Vaglrc.ends t a i).map fun j => (j, F a i j) := by
    rw [hF, rowOf_form]
    by_cases ha : a < g.nons
    · by_cases hi : i < x.length + 1
      · rw [if_pos ha, if_pos hi]
      · rw [if_pos ha, if_neg hi]
        cases e : Vaglrc.ends t a i with
        | nil => rfl
        | cons j r => exact absurd (h.lim (a := a) (i := i) (j := j) (by rw [e]; simp)).2.1 (by omega)
    · rw [if_neg ha]
      cases e : Vaglrc.ends t a i with
      | nil => rfl
      | cons j r => exact absurd (h.lim (a := a) (i := i) (j := j) (by rw [e]; simp)).1 ha
  rw [e1]
  refine List.map_congr_left fun j hj => ?_
  rw [hF, shape_count h hj]
/-- a symbol's counts -/
theorem mem_symCounts (sh : Shape g x t c) (h : Good g x t) {s : Sym} {p : Nat} {q : Nat × Count} : q ∈ Vaglrc.symCounts x c s p ↔
    q.1 ∈ Vaglrc.symEnds x t s p ∧ q.2 = (match s with | .non b => Vaglrc.countAt c b p q.1 | .range _ _ => some 1) := by
  obtain ⟨k, v⟩ := q
  cases s with
  | non b =>
    show (k, v) ∈ Vaglrc.rowOf c b p ↔ k ∈ Vaglrc.ends t b p ∧ _
    rw [sh.row h, List.mem_map]
    constructor
    · rintro ⟨j, hj, e⟩
      cases e
      exact ⟨hj, rfl⟩
    · rintro ⟨hj, e⟩
      exact ⟨k, hj, by rw [show v = _ from e]⟩
  | range lo hi =>
    show (k, v) ∈ (Vaglrc.symEnds x [] (.range lo hi) p).map (fun j => (j, some 1)) ↔ _
    rw [List.mem_map]
    constructor
    · rintro ⟨j, hj, e⟩
      cases e
      exact ⟨hj, rfl⟩
    · rintro ⟨hj, e⟩
      exact ⟨k, hj, by rw [show v = _ from e]⟩
theorem pnz_path (sh : Shape g x t c) (h : Good g x t) : ∀ {l : List Sym} {p j : Nat}, PNZ x c l p j → Path x t l p j
  | [], _, _, e => e
  | s :: l, p, j, ⟨q, hq, _, r⟩ => ⟨q.1, ((mem_symCounts sh h).mp hq).1, pnz_path sh h r⟩
/-- an infinite count on a way: a nonterminal with an infinite count, between two ways -/
theorem pin_kid (sh : Shape g x t c) (h : Good g x t) : ∀ {l : List Sym} {p j : Nat}, PIN x c l p j → ∃ l1 b l2 k q, l = l1 ++ Sym.non b :: l2 ∧ Path x t l1 p k ∧ q ∈ Vaglrc.ends t b k ∧ IN (Vaglrc.countAt c b k q) ∧ Path x t l2 q j
  | [], _, _, e => e.elim
  | s :: l, p, j, ⟨q, hq, hh⟩ => by
    obtain ⟨m, v⟩ := (mem_symCounts sh h).mp hq
    rcases hh with ⟨i1, r⟩ | ⟨_, r⟩
    · cases s with
      | range lo hi => rw [show q.2 = some 1 from v] at i1; simp [IN] at i1
      | non b => exact ⟨[], b, l, p, q.1, rfl, rfl, m, by rw [← show q.2 = Vaglrc.countAt c b p q.1 from v]; exact i1, pnz_path sh h r⟩
    · obtain ⟨l1, b, l2, k, q', e, p1, hq', i', p2⟩ := pin_kid sh h r
      exact ⟨s :: l1, b, l2, k, q', by rw [e]; rfl, ⟨q.1, m, p1⟩, hq', i', p2⟩

/-- the table between: which counts are infinite is right from the start -/
structure CInv (g : Grammar) (x : List Nat) (t : Vaglrc.Spans) (inf : List Node) (c : Table) : Prop where
  sh : Shape g x t c
  inf : ∀ a i j, j ∈ Vaglrc.ends t a i → (IN (Vaglrc.countAt c a i j) ↔ (a, i, j) ∈ inf)
variable {inf : List Node}
theorem count_noCounts (h : Good g x t) {a i j : Nat} (m : j ∈ Vaglrc.ends t a i) : Vaglrc.countAt (Vaglrc.noCounts g x t inf) a i j = if Vaglrc.hasNode (a, i, j) inf then none else some 0 :=
  shape_count (F := fun a i j => if Vaglrc.hasNode (a, i, j) inf then none else some 0) h m
theorem cinv_no (h : Good g x t) : CInv g x t inf (Vaglrc.noCounts g x t inf) where
  sh := ⟨_, rfl⟩
  inf := fun a i j m => by
    rw [count_noCounts h m]
    by_cases e : (a, i, j) ∈ inf
    · rw [if_pos (hasNode_iff.mpr e)]; simp [IN, e]
    · rw [if_neg fun q => e (hasNode_iff.mp q)]; simp [IN, e]
theorem fold_plus {a : Nat} {W : Rule → Count} : ∀ {rs : List Rule} {s : Count}, (NZ (rs.foldl (fun s r => if r.lhs == a then Vaglrc.plus s (W r) else s) s) ↔ NZ s ∨ ∃ r ∈ rs, r.lhs = a ∧ NZ (W r)) ∧
    (IN (rs.foldl (fun s r => if r.lhs == a then Vaglrc.plus s (W r) else s) s) ↔ IN s ∨ ∃ r ∈ rs, r.lhs = a ∧ IN (W r)) := by
  intro rs
  induction rs with
  | nil => intro s; simp
  | cons r rs ih =>
    intro s
    rw [List.foldl_cons, ih.1, ih.2]
    by_cases e : r.lhs = a
    · rw [if_pos (by simpa using e), nz_plus, in_plus]
      simp only [List.mem_cons, exists_eq_or_imp, e, true_and, or_assoc, and_self]
    · rw [if_neg (by simpa using e)]
      simp only [List.mem_cons, exists_eq_or_imp, e, false_and, false_or, and_self]
theorem count_round (h : Good g x t) {a i j : Nat} (m : j ∈ Vaglrc.ends t a i) : Vaglrc.countAt (Vaglrc.countRound g x t inf c) a i j = Vaglrc.countNode g x c inf a i j :=
  shape_count (F := fun a i j => Vaglrc.countNode g x c inf a i j) h m
/-- a node of which one beneath is infinite is infinite -/
def Spread (g : Grammar) (x : List Nat) (t : Vaglrc.Spans) (inf : List Node) : Prop := ∀ n m, n ∈ Vaglrc.nodesOf t → Kid g x t n m → m ∈ inf → n ∈ inf
theorem no_in (h : Good g x t) (sp : Spread g x t inf) (ci : CInv g x t inf c) {a i j : Nat} (m : j ∈ Vaglrc.ends t a i) (hn : (a, i, j) ∉ inf) {r : Rule} (hr : r ∈ g.rules) (e : r.lhs = a) {l1 l2 : List Sym} {k : Nat}
    (hs : r.rhs = l1 ++ l2) (p1 : Path x t l1 i k) : ¬ IN (Vaglrc.ways x c l2 k j) := by
  intro hi
  obtain ⟨m1, b, m2, k', q, e2, p2, hq, hI, p3⟩ := pin_kid ci.sh h (ways_in.mp hi)
  refine hn (sp (a, i, j) (b, k', q) ((mem_nodesOf h).mpr m) ⟨r, hr, e, l1 ++ m1, m2, ?_, path_append.mpr ⟨k, p1, p2⟩, hq, p3⟩ ((ci.inf b k' q hq).mp hI))
  rw [hs, e2, List.append_assoc]
theorem cinv_round (h : Good g x t) (sp : Spread g x t inf) (ci : CInv g x t inf c) : CInv g x t inf (Vaglrc.countRound g x t inf c) where
  sh := ⟨_, rfl⟩
  inf := fun a i j m => by
    rw [count_round h m]
    unfold Vaglrc.countNode
    by_cases e : (a, i, j) ∈ inf
    · rw [if_pos (hasNode_iff.mpr e)]; simp [IN, e]
    · rw [if_neg fun q => e (hasNode_iff.mp q), fold_plus.2]
      simp only [e, iff_false, not_or]
      refine ⟨by simp [IN], ?_⟩
      rintro ⟨r, hr, e2, hI⟩
      exact no_in h sp ci m e hr e2 (l1 := []) rfl rfl hI
theorem nz_round (h : Good g x t) {a i j : Nat} (m : j ∈ Vaglrc.ends t a i) : NZ (Vaglrc.countAt (Vaglrc.countRound g x t inf c) a i j) ↔ (a, i, j) ∈ inf ∨ ∃ r ∈ g.rules, r.lhs = a ∧ PNZ x c r.rhs i j := by
  rw [count_round h m]
  unfold Vaglrc.countNode
  by_cases e : (a, i, j) ∈ inf
  · rw [if_pos (hasNode_iff.mpr e)]; simp [NZ, e]
  · rw [if_neg fun q => e (hasNode_iff.mp q), fold_plus.1]
    simp only [e, false_or, ways_nz]
    constructor
    · rintro (h1 | h1)
      · simp [NZ] at h1
      · exact h1
    · exact .inr
/-- one table has no more counts of 0 than another -/
def Le (t : Vaglrc.Spans) (c d : Table) : Prop := ∀ a i j, j ∈ Vaglrc.ends t a i → NZ (Vaglrc.countAt c a i j) → NZ (Vaglrc.countAt d a i j)
theorem pnz_mono (h : Good g x t) {d : Table} (sc : Shape g x t c) (sd : Shape g x t d) (le : Le t c d) : ∀ {l : List Sym} {p j : Nat}, PNZ x c l p j → PNZ x d l p j
  | [], _, _, e => e
  | s :: l, p, j, ⟨q, hq, n, r⟩ => by
    obtain ⟨m, v⟩ := (mem_symCounts sc h).mp hq
    cases s with
    | range lo hi => exact ⟨q, (mem_symCounts sd h).mpr ⟨m, v⟩, n, pnz_mono h sc sd le r⟩
    | non b => exact ⟨(q.1, Vaglrc.countAt d b p q.1), (mem_symCounts sd h).mpr ⟨m, rfl⟩, le b p q.1 m (by rw [← show q.2 = Vaglrc.countAt c b p q.1 from v]; exact n), pnz_mono h sc sd le r⟩
theorem le_no (h : Good g x t) : Le t (Vaglrc.noCounts g x t inf) (Vaglrc.countRound g x t inf (Vaglrc.noCounts g x t inf)) := fun a i j m n => by
  rw [nz_round h m]
  rw [count_noCounts h m] at n
  by_cases e : (a, i, j) ∈ inf
  · exact .inl e
  · rw [if_neg fun q => e (hasNode_iff.mp q)] at n
    simp [NZ] at n
theorem le_round (h : Good g x t) {d : Table} (sc : Shape g x t c) (sd : Shape g x t d) (le : Le t c d) : Le t (Vaglrc.countRound g x t inf c) (Vaglrc.countRound g x t inf d) := fun a i j m n => by
  rw [nz_round h m] at n ⊢
  rcases n with e | ⟨r, hr, e, p⟩
  · exact .inl e
  · exact .inr ⟨r, hr, e, pnz_mono h sc sd le p⟩
/-- no count of 0 -/
def AllNZ (t : Vaglrc.Spans) (c : Table) : Prop := ∀ a i j, j ∈ Vaglrc.ends t a i → NZ (Vaglrc.countAt c a i j)
/-- where a round makes no count of 0 another, there is none -/
theorem all_of_closed (wf : WfG g) (sc : Shape g x (Vaglrc.spansOf g x) c) (cl : Le (Vaglrc.spansOf g x) (Vaglrc.countRound g x (Vaglrc.spansOf g x) inf c) c) : AllNZ (Vaglrc.spansOf g x) c := by
  have row : ∀ {l : List Sym} {i j : Nat}, Cov g.rules x l i j → i ≤ x.length → (∀ b, Sym.non b ∈ l → b < g.nons) → PNZ x c l i j := by
    intro l i j cv
    induction cv with
    | nil => intro _ _; rfl
    | @rng lo hi b i j l hx h1 h2 _ ih =>
      intro hi hb
      have hlt := (List.getElem?_eq_some_iff.mp hx).1
      refine ⟨(i + 1, some 1), (mem_symCounts sc spans_good).mpr ⟨?_, rfl⟩, by simp [NZ], ih (by omega) fun b hm => hb b (List.mem_cons_of_mem _ hm)⟩
      show i + 1 ∈ (match x[i]? with | some b => if lo ≤ b then (if b ≤ _ then [i + 1] else []) else [] | none => [])
      rw [hx]
      simp only [h1, h2, if_true, List.mem_singleton]
    | @non a i k j r l hr e c1 c2 ih1 ih2 =>
      intro hi hb
      have hk := c1.le.2 hi
      have m : k ∈ Vaglrc.ends (Vaglrc.spansOf g x) a i := (mem_ends wf hi).mpr ⟨r, hr, e, c1⟩
      refine ⟨(k, Vaglrc.countAt c a i k), (mem_symCounts sc spans_good).mpr ⟨m, rfl⟩, ?_, ih2 hk fun b hm => hb b (List.mem_cons_of_mem _ hm)⟩
      exact cl a i k m ((nz_round spans_good m).mpr (.inr ⟨r, hr, e, ih1 hi (wf.rhs r hr)⟩))
  intro a i j m
  obtain ⟨⟨r, hr, e, cv⟩, hi⟩ := spans_good.sound a i j m
  exact cl a i j m ((nz_round spans_good m).mpr (.inr ⟨r, hr, e, row cv hi (wf.rhs r hr)⟩))
instance {c : Count} : Decidable (NZ c) := inferInstanceAs (Decidable (¬ _))
def zeros (t : Vaglrc.Spans) (c : Table) : Nat := ((Vaglrc.nodesOf t).filter fun n => decide (¬ NZ (Vaglrc.countAt c n.1 n.2.1 n.2.2))).length
theorem countUp_all (wf : WfG g) (sp : Spread g x (Vaglrc.spansOf g x) inf) : ∀ (k : Nat) (c : Table), CInv g x (Vaglrc.spansOf g x) inf c → Le (Vaglrc.spansOf g x) c (Vaglrc.countRound g x (Vaglrc.spansOf g x) inf c) → zeros (Vaglrc.spansOf g x) c ≤ k →
    CInv g x (Vaglrc.spansOf g x) inf (Vaglrc.countUp g x (Vaglrc.spansOf g x) inf k c) ∧ AllNZ (Vaglrc.spansOf g x) (Vaglrc.countUp g x (Vaglrc.spansOf g x) inf k c) := by
  have h : Good g x (Vaglrc.spansOf g x) := spans_good
  intro k
  induction k with
  | zero =>
    intro c ci _ hz
    refine ⟨ci, fun a i j m => ?_⟩
    apply Classical.byContradiction
    intro hn
    have : 0 < zeros (Vaglrc.spansOf g x) c := List.length_pos_of_mem (a := (a, i, j)) (List.mem_filter.mpr ⟨(mem_nodesOf h).mpr m, decide_eq_true hn⟩)
    omega
  | succ k ih =>
    intro c ci le hz
    have e : Vaglrc.countUp g x (Vaglrc.spansOf g x) inf (k + 1) c = if (Vaglrc.countRound g x (Vaglrc.spansOf g x) inf c == c) = true then c else Vaglrc.countUp g x (Vaglrc.spansOf g x) inf k (Vaglrc.countRound g x (Vaglrc.spansOf g x) inf c) := rfl
    rw [e]
    by_cases hd : Vaglrc.countRound g x (Vaglrc.spansOf g x) inf c = c
    · rw [if_pos (by simpa using hd)]
      exact ⟨ci, all_of_closed wf ci.sh fun a i j m n => by rw [hd] at n; exact n⟩
    · rw [if_neg (by simpa using hd)]
      have ci2 := cinv_round h sp ci
      refine ih _ ci2 (le_round h ci.sh ci2.sh le) ?_
      by_cases hall : AllNZ (Vaglrc.spansOf g x) c
      · have : zeros (Vaglrc.spansOf g x) (Vaglrc.countRound g x (Vaglrc.spansOf g x) inf c) = 0 := by
          unfold zeros
          rw [List.length_eq_zero_iff, List.filter_eq_nil_iff]
          intro n hn hq
          exact (of_decide_eq_true hq) (le n.1 n.2.1 n.2.2 ((mem_nodesOf h).mp hn) (hall _ _ _ ((mem_nodesOf h).mp hn)))
        omega
      · have hlt : zeros (Vaglrc.spansOf g x) (Vaglrc.countRound g x (Vaglrc.spansOf g x) inf c) < zeros (Vaglrc.spansOf g x) c := by
          refine filter_lt (fun n hn hq => decide_eq_true fun hc => (of_decide_eq_true hq) (le _ _ _ ((mem_nodesOf h).mp hn) hc)) ?_
          apply Classical.byContradiction
          intro hno
          apply hall
          refine all_of_closed (inf := inf) wf ci.sh fun a i j m n => ?_
          apply Classical.byContradiction
          intro hz2
          exact hno ⟨(a, i, j), (mem_nodesOf h).mpr m, decide_eq_true hz2, decide_eq_false fun q => q n⟩
        omega
theorem spread_infinite (h : Good g x t) : Spread g x t (Vaglrc.infinite g (Vaglrc.links g x t)) := fun n m hn k hm => by
  obtain ⟨_, c, st, pl⟩ := (mem_infinite h).mp hm
  exact (mem_infinite h).mpr ⟨hn, c, .head k st, pl⟩
/-- the counts: none just of the endless, never 0 -/
theorem counts_spec (wf : WfG g) : CInv g x (Vaglrc.spansOf g x) (Vaglrc.infinite g (Vaglrc.links g x (Vaglrc.spansOf g x))) (Vaglrc.countsOf g x) ∧ AllNZ (Vaglrc.spansOf g x) (Vaglrc.countsOf g x) := by
  refine countUp_all wf (spread_infinite spans_good) _ _ (cinv_no spans_good) (le_no spans_good) ?_
  have := List.length_filter_le (fun n => decide (¬ NZ (Vaglrc.countAt (Vaglrc.noCounts g x (Vaglrc.spansOf g x) (Vaglrc.infinite g (Vaglrc.links g x (Vaglrc.spansOf g x)))) n.1 n.2.1 n.2.2))) (Vaglrc.nodesOf (Vaglrc.spansOf g x))
  unfold zeros
  omega
theorem count_none (wf : WfG g) {a i j : Nat} (m : j ∈ Vaglrc.ends (Vaglrc.spansOf g x) a i) : Vaglrc.countAt (Vaglrc.countsOf g x) a i j = none ↔ Endless g x (Vaglrc.spansOf g x) (a, i, j) := by
  rw [show Vaglrc.countAt (Vaglrc.countsOf g x) a i j = none ↔ _ from (counts_spec wf).1.inf a i j m, mem_infinite spans_good]
  exact ⟨fun q => q.2, fun q => ⟨(mem_nodesOf spans_good).mpr m, q⟩⟩
end
end TR
set_option linter.all false
/-! The first tree: as the specification picks it, and as a stack tells it. -/
namespace TR
open Vaglrc (Sym Rule Grammar Node Count Counts Table Task Tree)

/-! ### from behind: the places from which the symbols come to an end -/
def comeTo (x : List Nat) (t : Vaglrc.Spans) (e : Nat) : List Sym → List Nat
  | [] => [e]
  | s :: l => (List.range (e + 1)).filter fun p => (Vaglrc.symEnds x t s p).any fun q => decide (q ∈ comeTo x t e l)
/-- the symbols with their pieces, each as short as may be -/
def parts (x : List Nat) (t : Vaglrc.Spans) (e : Nat) : List Sym → Nat → List (Sym × Nat × Nat)
  | [], _ => []
  | s :: l, p => match (Vaglrc.symEnds x t s p).find? fun q => decide (q ∈ comeTo x t e l) with
    | some q => (s, p, q) :: parts x t e l q
    | none => []
def firstRoot (x : List Nat) (t : Vaglrc.Spans) (a i j : Nat) : Nat → List Rule → Option (Nat × List (Sym × Nat × Nat))
  | _, [] => none
  | k, r :: l => if r.lhs = a ∧ i ∈ comeTo x t j r.rhs then some (k, parts x t j r.rhs i) else firstRoot x t a i j (k + 1) l
/-- the first tree's term, number by number, from a stack of pieces -/
def emit (x : List Nat) (t : Vaglrc.Spans) (rs : List Rule) (hole : Nat → Option Nat) : Nat → List (Sym × Nat × Nat) → List Nat
  | 0, _ => []
  | _ + 1, [] => []
  | k + 1, (.range _ _, i, _) :: w => x.getD i 0 :: emit x t rs hole k w
  | k + 1, (.non a, i, j) :: w => match firstRoot x t a i j 0 rs with
    | none => []
    | some (r, ps) => match hole r with
      | some h => (1000 + h) :: emit x t rs hole k w
      | none => r :: emit x t rs hole k (ps ++ w)

section
variable {h : Grammar} {x : List Nat} {t : Vaglrc.Spans}
theorem sym_le (g : Good h x t) {s : Sym} {i k : Nat} (m : k ∈ Vaglrc.symEnds x t s i) : i ≤ k := (symEnds_cov g m (.nil)).le.1
theorem path_le (g : Good h x t) {l : List Sym} {i j : Nat} (p : Path x t l i j) : i ≤ j := (path_cov g p).le.1
theorem mem_comeTo (g : Good h x t) {e : Nat} : ∀ {l : List Sym} {p : Nat}, p ∈ comeTo x t e l ↔ Path x t l p e
  | [], p => by simp [comeTo, Path]
  | s :: l, p => by
    unfold comeTo
    simp only [List.mem_filter, List.mem_range, List.any_eq_true, decide_eq_true_eq]
    constructor
    · rintro ⟨_, q, hq, hm⟩
      exact ⟨q, hq, (mem_comeTo g).mp hm⟩
    · rintro ⟨q, hq, hp⟩
      have h1 := sym_le g hq
      have h2 := path_le g hp
      exact ⟨by omega, q, hq, (mem_comeTo g).mpr hp⟩
/-- pieces one behind another -/
def Contig : Nat → List (Sym × Nat × Nat) → Nat → Prop
  | p, [], e => p = e
  | p, w :: l, e => w.2.1 = p ∧ Contig w.2.2 l e
theorem contig_append {e : Nat} : ∀ {l m : List (Sym × Nat × Nat)} {p q : Nat}, Contig p l q → Contig q m e → Contig p (l ++ m) e
  | [], m, p, q, h1, h2 => by
    have e1 : p = q := h1
    rw [e1]; exact h2
  | w :: l, m, p, q, ⟨h1, h2⟩, h3 => ⟨h1, contig_append h2 h3⟩
theorem parts_spec (g : Good h x t) {e : Nat} : ∀ {l : List Sym} {p : Nat}, Path x t l p e → (parts x t e l p).map (·.1) = l ∧ Contig p (parts x t e l p) e ∧ ∀ w ∈ parts x t e l p, w.2.2 ∈ Vaglrc.symEnds x t w.1 w.2.1 ∧
    ∃ l1 l2, l = l1 ++ w.1 :: l2 ∧ Path x t l1 p w.2.1 ∧ Path x t l2 w.2.2 e
  | [], p, hp => ⟨rfl, hp, fun w hw => by simp [parts] at hw⟩
  | s :: l, p, hp => by
    obtain ⟨k, hk, hr⟩ := hp
    unfold parts
    cases hf : (Vaglrc.symEnds x t s p).find? fun q => decide (q ∈ comeTo x t e l) with
    | none =>
      have := List.find?_eq_none.mp hf k hk
      exact absurd ((mem_comeTo g).mpr hr) (by simpa using this)
    | some q =>
      have hq := List.mem_of_find?_eq_some hf
      have hc : q ∈ comeTo x t e l := by simpa using List.find?_some hf
      obtain ⟨i1, i2, i3⟩ := parts_spec g (l := l) ((mem_comeTo g).mp hc)
      refine ⟨by simp [i1], ⟨rfl, i2⟩, fun w hw => ?_⟩
      rcases List.mem_cons.mp hw with ew | hw
      · subst ew
        exact ⟨hq, [], l, rfl, rfl, (mem_comeTo g).mp hc⟩
      · obtain ⟨j1, l1, l2, j2, j3, j4⟩ := i3 w hw
        exact ⟨j1, s :: l1, l2, by rw [j2]; rfl, ⟨q, hq, j3⟩, j4⟩
theorem firstRoot_spec (g : Good h x t) {a i j : Nat} : ∀ {rs : List Rule} {k : Nat}, (∃ r ∈ rs, r.lhs = a ∧ Path x t r.rhs i j) →
    ∃ m q, rs[m]? = some q ∧ q.lhs = a ∧ Path x t q.rhs i j ∧ firstRoot x t a i j k rs = some (k + m, parts x t j q.rhs i) ∧ ∀ m' < m, ∀ q', rs[m']? = some q' → q'.lhs = a → ¬ Path x t q'.rhs i j
  | [], k, ⟨r, hr, _⟩ => by simp at hr
  | r :: rs, k, hx => by
    unfold firstRoot
    by_cases hc : r.lhs = a ∧ i ∈ comeTo x t j r.rhs
    · rw [if_pos hc]
      exact ⟨0, r, rfl, hc.1, (mem_comeTo g).mp hc.2, rfl, fun m' hm' => by omega⟩
    · rw [if_neg hc]
      have hx2 : ∃ r ∈ rs, r.lhs = a ∧ Path x t r.rhs i j := by
        obtain ⟨q, hq, e, p⟩ := hx
        rcases List.mem_cons.mp hq with e2 | hq
        · subst e2; exact absurd ⟨e, (mem_comeTo g).mpr p⟩ hc
        · exact ⟨q, hq, e, p⟩
      obtain ⟨m, q, h1, h2, h3, h4, h5⟩ := firstRoot_spec g (rs := rs) (k := k + 1) hx2
      refine ⟨m + 1, q, by simpa using h1, h2, h3, ?_, ?_⟩
      · rw [h4]; simp; omega
      · intro m' hm' q' hq' e p
        cases m' with
        | zero =>
          have : r = q' := by simpa using hq'
          subst this
          exact hc ⟨e, (mem_comeTo g).mpr p⟩
        | succ m' => exact h5 m' (by omega) q' (by simpa using hq') e p

/-! ### the specification's choice -/
variable {c : Table} {inf : List Node}
theorem path_pnz (sh : Shape h x t c) (g : Good h x t) (al : AllNZ t c) : ∀ {l : List Sym} {p j : Nat}, Path x t l p j → PNZ x c l p j
  | [], _, _, e => e
  | s :: l, p, j, ⟨q, hq, r⟩ => by
    cases s with
    | range lo hi => exact ⟨(q, some 1), (mem_symCounts sh g).mpr ⟨hq, rfl⟩, by simp [NZ], path_pnz sh g al r⟩
    | non b => exact ⟨(q, Vaglrc.countAt c b p q), (mem_symCounts sh g).mpr ⟨hq, rfl⟩, al b p q hq, path_pnz sh g al r⟩
theorem ways_fin (sh : Shape h x t c) (g : Good h x t) (al : AllNZ t c) {l : List Sym} {i j : Nat} (hn : ¬ IN (Vaglrc.ways x c l i j)) : 0 < Vaglrc.finite (Vaglrc.ways x c l i j) ↔ Path x t l i j := by
  rw [finite_pos, ways_nz]
  exact ⟨fun q => pnz_path sh g q.1, fun q => ⟨path_pnz sh g al q, hn⟩⟩
theorem pickEnd_zero {w : Nat → Nat} : ∀ {l : List Nat}, Vaglrc.pickEnd w l 0 = (l.find? fun q => decide (0 < w q)).map fun q => (q, 0)
  | [] => rfl
  | q :: l => by
    unfold Vaglrc.pickEnd
    rw [List.find?_cons]
    by_cases hw : 0 < w q
    · rw [if_pos hw]; simp [hw]
    · rw [if_neg hw, Nat.zero_sub, pickEnd_zero]; simp [hw]
def taskOf : Sym × Nat × Nat → Option Task
  | (.non b, i, j) => some { non := b, from_ := i, to := j, nth := 0 }
  | _ => none
abbrev tasks (w : List (Sym × Nat × Nat)) : List Task := w.filterMap taskOf
/-- a node that is covered and has finitely many trees -/
structure Fine (h : Grammar) (x : List Nat) (t : Vaglrc.Spans) (inf : List Node) (a i j : Nat) : Prop where
  there : j ∈ Vaglrc.ends t a i
  fin : (a, i, j) ∉ inf
variable (sp : Spread h x t inf) (ci : CInv h x t inf c) (al : AllNZ t c)
include sp ci al
theorem pickRow_parts (g : Good h x t) {a i j : Nat} (f : Fine h x t inf a i j) {r : Rule} (hr : r ∈ h.rules) (er : r.lhs = a) : ∀ {l l0 : List Sym} {p : Nat}, r.rhs = l0 ++ l → Path x t l0 i p → Path x t l p j →
    Vaglrc.pickRow x t c l p j 0 = some (tasks (parts x t j l p))
  | [], l0, p, _, _, _ => rfl
  | s :: l, l0, p, hs, p0, hp => by
    obtain ⟨k, hk, hrest⟩ := hp
    have hs2 : r.rhs = (l0 ++ [s]) ++ l := by rw [hs, List.append_assoc]; rfl
    cases hf : (Vaglrc.symEnds x t s p).find? fun q => decide (q ∈ comeTo x t j l) with
    | none =>
      have := List.find?_eq_none.mp hf k hk
      exact absurd ((mem_comeTo g).mpr hrest) (by simpa using this)
    | some q =>
      have hq := List.mem_of_find?_eq_some hf
      have hc : Path x t l q j := (mem_comeTo g).mp (by simpa using List.find?_some hf)
      have p1 : Path x t (l0 ++ [s]) i q := path_append.mpr ⟨p, p0, q, hq, rfl⟩
      have ih := pickRow_parts g f hr er hs2 p1 hc
      have ep : parts x t j (s :: l) p = (s, p, q) :: parts x t j l q := by
        show (match (Vaglrc.symEnds x t s p).find? fun q => decide (q ∈ comeTo x t j l) with | some q => (s, p, q) :: parts x t j l q | none => []) = _
        rw [hf]
      rw [ep]
      cases s with
      | range lo hi =>
        have hne : (Vaglrc.symEnds x t (.range lo hi) p).isEmpty = false := by
          cases e : Vaglrc.symEnds x t (.range lo hi) p with
          | nil => rw [e] at hq; simp at hq
          | cons _ _ => rfl
        have eq1 : q = p + 1 := by
          have m' : q ∈ (match x[p]? with | some b => if lo ≤ b then (if b ≤ hi then [p + 1] else []) else [] | none => []) := hq
          cases hx : x[p]? with
          | none => rw [hx] at m'; simp at m'
          | some b =>
            rw [hx] at m'
            by_cases h1 : lo ≤ b
            · by_cases h2 : b ≤ hi
              · simpa [h1, h2] using m'
              · simp [h1, h2] at m'
            · simp [h1] at m'
        show (if (Vaglrc.symEnds x t (.range lo hi) p).isEmpty then none else Vaglrc.pickRow x t c l (p + 1) j 0) = _
        rw [hne, if_neg (by simp), ← eq1, ih]
        rfl
      | non b =>
        have eqf : (Vaglrc.ends t b p).find? (fun q => decide (0 < Vaglrc.finite (Vaglrc.countAt c b p q) * Vaglrc.finite (Vaglrc.ways x c l q j))) = some q := by
          rw [← hf]
          show _ = (Vaglrc.ends t b p).find? _
          have hcong : ∀ (L : List Nat), (∀ q ∈ L, q ∈ Vaglrc.ends t b p) → L.find? (fun q => decide (0 < Vaglrc.finite (Vaglrc.countAt c b p q) * Vaglrc.finite (Vaglrc.ways x c l q j))) = L.find? fun q => decide (q ∈ comeTo x t j l) := by
            intro L hL
            induction L with
            | nil => rfl
            | cons q' L ihL =>
              have hq' := hL q' List.mem_cons_self
              have e1 : decide (0 < Vaglrc.finite (Vaglrc.countAt c b p q') * Vaglrc.finite (Vaglrc.ways x c l q' j)) = decide (q' ∈ comeTo x t j l) := by
                rw [decide_eq_decide, mem_comeTo g]
                have p2 : Path x t (l0 ++ [Sym.non b]) i q' := path_append.mpr ⟨p, p0, q', hq', rfl⟩
                have wf := ways_fin ci.sh g al (no_in g sp ci f.there f.fin hr er hs2 p2)
                constructor
                · intro hpos
                  exact wf.mp (Nat.pos_of_mul_pos_left hpos)
                · intro hpath
                  refine Nat.mul_pos (finite_pos.mpr ⟨al b p q' hq', fun hI => ?_⟩) (wf.mpr hpath)
                  have hin := (ci.inf b p q' hq').mp hI
                  exact f.fin (sp (a, i, j) (b, p, q') ((mem_nodesOf g).mpr f.there) ⟨r, hr, er, l0, l, hs, p0, hq', hpath⟩ hin)
              rw [List.find?_cons, List.find?_cons, e1, ihL fun z hz => hL z (List.mem_cons_of_mem _ hz)]
          exact hcong _ fun _ hz => hz
        have epe : Vaglrc.pickEnd (fun q => Vaglrc.finite (Vaglrc.countAt c b p q) * Vaglrc.finite (Vaglrc.ways x c l q j)) (Vaglrc.ends t b p) 0 = some (q, 0) := by
          rw [pickEnd_zero, eqf]; rfl
        show (match Vaglrc.pickEnd (fun q => Vaglrc.finite (Vaglrc.countAt c b p q) * Vaglrc.finite (Vaglrc.ways x c l q j)) (Vaglrc.ends t b p) 0 with
          | none => none
          | some (q, m) => match Vaglrc.pickRow x t c l q j (m % Vaglrc.finite (Vaglrc.ways x c l q j)) with
            | none => none
            | some l' => some (({ non := b, from_ := p, to := q, nth := m / Vaglrc.finite (Vaglrc.ways x c l q j) } : Task) :: l')) = _
        rw [epe]
        simp only [Nat.zero_mod, ih, Nat.zero_div]
        rfl
theorem pickRule_first (g : Good h x t) {a i j : Nat} (f : Fine h x t inf a i j) {m : Nat} {q : Rule} (hm : h.rules[m]? = some q) (eq : q.lhs = a) (hp : Path x t q.rhs i j)
    (hno : ∀ m' < m, ∀ q', h.rules[m']? = some q' → q'.lhs = a → ¬ Path x t q'.rhs i j) : Vaglrc.pickRule x c a i j (Vaglrc.numbered h) 0 = some (m, q.rhs, 0) := by
  have fin : ∀ r ∈ h.rules, r.lhs = a → (0 < Vaglrc.finite (Vaglrc.ways x c r.rhs i j) ↔ Path x t r.rhs i j) := fun r hr e =>
    ways_fin ci.sh g al (no_in g sp ci f.there f.fin hr e (l1 := []) rfl rfl)
  have go : ∀ (rs : List Rule) (s m : Nat), (∀ r ∈ rs, r ∈ h.rules) → rs[m]? = some q → (∀ m' < m, ∀ q', rs[m']? = some q' → q'.lhs = a → ¬ Path x t q'.rhs i j) →
      Vaglrc.pickRule x c a i j ((List.range' s rs.length).zip rs) 0 = some (s + m, q.rhs, 0) := by
    intro rs
    induction rs with
    | nil => intro s m _ h1 _; simp at h1
    | cons r rs ih =>
      intro s m hin h1 h2
      rw [List.length_cons, List.range'_succ, List.zip_cons_cons]
      unfold Vaglrc.pickRule
      cases m with
      | zero =>
        have er : r = q := by simpa using h1
        subst er
        have hpos := (fin r (hin r List.mem_cons_self) eq).mpr hp
        simp only [eq, beq_self_eq_true, if_true, hpos, Nat.add_zero]
      | succ m =>
        have hz : ¬ (0 < if (r.lhs == a) = true then Vaglrc.finite (Vaglrc.ways x c r.rhs i j) else 0) := by
          by_cases e : r.lhs = a
          · rw [if_pos (by simpa using e)]
            intro hpos
            exact h2 0 (by omega) r rfl e ((fin r (hin r List.mem_cons_self) e).mp hpos)
          · rw [if_neg (by simpa using e)]; omega
        simp only [hz, if_false, Nat.zero_sub]
        rw [ih (s + 1) m (fun r hr => hin r (List.mem_cons_of_mem _ hr)) (by simpa using h1) fun m' hm' q' hq' => h2 (m' + 1) (by omega) q' (by simpa using hq')]
        simp; omega
  have := go h.rules 0 m (fun _ hr => hr) hm hno
  unfold Vaglrc.numbered
  rw [List.range_eq_range', this]
  simp
end
end TR
set_option linter.all false
/-! What a text says: the specification's answer against the stack's. -/
namespace TR
open Vaglrc (Sym Rule Grammar Node Count Counts Table Task Tree)
open Vaglrj (Term)

/-! ### grammars and patterns in form -/
structure GOk (g : Grammar) : Prop where
  nons : g.nons ≤ 20
  pos : 1 ≤ g.nons
  many : g.rules.length ≤ 60
  lhs : ∀ r ∈ g.rules, r.lhs < g.nons
  len : ∀ r ∈ g.rules, r.rhs.length ≤ 8
  non : ∀ r ∈ g.rules, ∀ b, Sym.non b ∈ r.rhs → b < g.nons
  rng : ∀ r ∈ g.rules, ∀ lo hi, Sym.range lo hi ∈ r.rhs → lo ≤ hi ∧ hi < 256
def POk (g : Grammar) (x : List Nat) : Prop := ∀ c ∈ x, c < 256 ∨ ((Vaglrj.holeOf c).1 < 10 ∧ (Vaglrj.holeOf c).2 < g.nons)
def holeRule (c : Nat) : Rule := { lhs := (Vaglrj.holeOf c).2, rhs := [.range c c] }
theorem withHoles_rules {g : Grammar} {x : List Nat} : (Vaglrj.withHoles g x).rules = g.rules ++ (Vaglrj.holeSigns x).map holeRule := rfl
theorem mem_onceIn {c : Nat} {l : List Nat} : c ∈ Vaglrj.onceIn l ↔ c ∈ l := by
  have go : ∀ (l acc : List Nat), c ∈ l.foldl (fun a x => if Vaglrc.has x a then a else a ++ [x]) acc ↔ c ∈ acc ∨ c ∈ l := by
    intro l
    induction l with
    | nil => intro acc; simp
    | cons m l ih =>
      intro acc
      rw [List.foldl_cons, ih]
      by_cases h : m ∈ acc
      · rw [if_pos (has_iff.mpr h)]
        simp only [List.mem_cons]
        constructor
        · rintro (h1 | h1)
          · exact .inl h1
          · exact .inr (.inr h1)
        · rintro (h1 | rfl | h1)
          · exact .inl h1
          · exact .inl h
          · exact .inr h1
      · rw [if_neg (fun q => h (has_iff.mp q))]
        simp only [List.mem_append, List.mem_cons, List.not_mem_nil, or_false]
        constructor
        · rintro ((h1 | h1) | h1)
          · exact .inl h1
          · exact .inr (.inl h1)
          · exact .inr (.inr h1)
        · rintro (h1 | h1 | h1)
          · exact .inl (.inl h1)
          · exact .inl (.inr h1)
          · exact .inr h1
  have := go l []
  simpa [Vaglrj.onceIn] using this
theorem onceIn_nodup {l : List Nat} : (Vaglrj.onceIn l).Nodup := by
  have go : ∀ (l acc : List Nat), acc.Nodup → (l.foldl (fun a x => if Vaglrc.has x a then a else a ++ [x]) acc).Nodup := by
    intro l
    induction l with
    | nil => intro acc h; exact h
    | cons m l ih =>
      intro acc h
      rw [List.foldl_cons]
      refine ih _ ?_
      by_cases hm : m ∈ acc
      · rw [if_pos (has_iff.mpr hm)]; exact h
      · rw [if_neg (fun q => hm (has_iff.mp q))]
        rw [List.nodup_append]
        refine ⟨h, by simp, ?_⟩
        intro a ha b hb
        have : b = m := by simpa using hb
        rw [this]
        rintro rfl
        exact hm ha
  exact go l [] (by simp)
theorem mem_holeSigns {c : Nat} {x : List Nat} : c ∈ Vaglrj.holeSigns x ↔ c ∈ x ∧ 256 ≤ c := by
  unfold Vaglrj.holeSigns
  rw [mem_onceIn, List.mem_filter]
  simp
theorem hole_sign {c : Nat} (h : 256 ≤ c) : 256 + 32 * (Vaglrj.holeOf c).1 + (Vaglrj.holeOf c).2 = c := by
  unfold Vaglrj.holeOf
  show 256 + 32 * ((c - 256) / 32) + (c - 256) % 32 = c
  omega
theorem wf_withHoles {g : Grammar} {x : List Nat} (ok : GOk g) (px : POk g x) : WfG (Vaglrj.withHoles g x) where
  lhs := fun r hr => by
    rw [withHoles_rules, List.mem_append, List.mem_map] at hr
    rcases hr with h | ⟨c, hc, rfl⟩
    · exact ok.lhs r h
    · obtain ⟨h1, h2⟩ := mem_holeSigns.mp hc
      rcases px c h1 with h3 | h3
      · omega
      · exact h3.2
  rhs := fun r hr b hb => by
    rw [withHoles_rules, List.mem_append, List.mem_map] at hr
    rcases hr with h | ⟨c, hc, rfl⟩
    · exact ok.non r h b hb
    · simp [holeRule] at hb
/-- which hole a rule is added for -/
def holeNo (g : Grammar) (x : List Nat) (r : Nat) : Option Nat := if r < g.rules.length then none else ((Vaglrj.holeSigns x)[r - g.rules.length]?).map fun c => (Vaglrj.holeOf c).1

/-! ### terms told from a stack of symbols -/
/-- y, read from the symbols l, leaves l'. S: which holes may stand for which nonterminal -/
inductive Go (g : Grammar) (S : Nat → Nat → Prop) : List Sym → List Nat → List Sym → Prop where
  | nil {l : List Sym} : Go g S l [] l
  | rng {lo hi b : Nat} {l l' : List Sym} {r : List Nat} : lo ≤ b → b ≤ hi → Go g S l r l' → Go g S (.range lo hi :: l) (b :: r) l'
  | hole {k a : Nat} {l l' : List Sym} {r : List Nat} : S k a → Go g S l r l' → Go g S (.non a :: l) ((1000 + k) :: r) l'
  | node {c a : Nat} {q : Rule} {l l' : List Sym} {r : List Nat} : g.rules[c]? = some q → q.lhs = a → Go g S (q.rhs ++ l) r l' → Go g S (.non a :: l) (c :: r) l'
/-- the hole k of the nonterminal a stands in the text -/
def inText (x : List Nat) (k a : Nat) : Prop := a < 32 ∧ 256 + 32 * k + a ∈ x

def isR : Sym × Nat × Nat → Bool
  | (.range _ _, _, _) => true
  | _ => false
section
variable {g : Grammar} {x : List Nat} {inf : List Node} {c : Table}
/-- an entry of the stack -/
def Val (g : Grammar) (x : List Nat) (inf : List Node) (w : Sym × Nat × Nat) : Prop := match w with
  | (.range lo hi, i, j) => j ∈ Vaglrc.symEnds x (Vaglrc.spansOf (Vaglrj.withHoles g x) x) (.range lo hi) i ∧ hi < 256
  | (.non b, i, j) => Fine (Vaglrj.withHoles g x) x (Vaglrc.spansOf (Vaglrj.withHoles g x) x) inf b i j
theorem symEnds_range {t : Vaglrc.Spans} {lo hi i j : Nat} (m : j ∈ Vaglrc.symEnds x t (.range lo hi) i) : ∃ b, x[i]? = some b ∧ lo ≤ b ∧ b ≤ hi ∧ j = i + 1 := by
  have m' : j ∈ (match x[i]? with | some b => if lo ≤ b then (if b ≤ hi then [i + 1] else []) else [] | none => []) := m
  cases hx : x[i]? with
  | none => rw [hx] at m'; simp at m'
  | some b =>
    rw [hx] at m'
    by_cases h1 : lo ≤ b
    · by_cases h2 : b ≤ hi
      · exact ⟨b, rfl, h1, h2, by simpa [h1, h2] using m'⟩
      · simp [h1, h2] at m'
    · simp [h1] at m'
theorem getD_of {i b : Nat} (h : x[i]? = some b) : x.getD i 0 = b := by
  unfold List.getD; rw [h]; rfl
abbrev hh (g : Grammar) (x : List Nat) : Grammar := Vaglrj.withHoles g x
abbrev tt (g : Grammar) (x : List Nat) : Vaglrc.Spans := Vaglrc.spansOf (hh g x) x
theorem rule_cases {m : Nat} {q : Rule} (h : (hh g x).rules[m]? = some q) : (g.rules[m]? = some q ∧ q ∈ g.rules ∧ holeNo g x m = none ∧ ¬ g.rules.length ≤ m) ∨
    ∃ s, s ∈ x ∧ 256 ≤ s ∧ q = holeRule s ∧ holeNo g x m = some (Vaglrj.holeOf s).1 ∧ g.rules.length ≤ m := by
  have h' : (g.rules ++ (Vaglrj.holeSigns x).map holeRule)[m]? = some q := h
  by_cases hm : m < g.rules.length
  · rw [List.getElem?_append_left hm] at h'
    exact .inl ⟨h', List.mem_of_getElem? h', by unfold holeNo; rw [if_pos hm], by omega⟩
  · rw [List.getElem?_append_right (by omega), List.getElem?_map] at h'
    cases e : (Vaglrj.holeSigns x)[m - g.rules.length]? with
    | none => rw [e] at h'; simp at h'
    | some s =>
      rw [e] at h'
      obtain ⟨h1, h2⟩ := mem_holeSigns.mp (List.mem_of_getElem? e)
      refine .inr ⟨s, h1, h2, (Option.some.inj h').symm, ?_, by omega⟩
      unfold holeNo
      rw [if_neg hm, e]; rfl
variable (ok : GOk g) (px : POk g x) (sp : Spread (hh g x) x (tt g x) inf) (ci : CInv (hh g x) x (tt g x) inf c) (al : AllNZ (tt g x) c)
include ok px sp ci al
/-- what the choice is at a fine node -/
theorem fine_root {a i j : Nat} (f : Fine (hh g x) x (tt g x) inf a i j) : ∃ m q, (hh g x).rules[m]? = some q ∧ q.lhs = a ∧ Path x (tt g x) q.rhs i j ∧
    firstRoot x (tt g x) a i j 0 (hh g x).rules = some (m, parts x (tt g x) j q.rhs i) ∧
    Vaglrc.pickRule x c a i j (Vaglrc.numbered (hh g x)) 0 = some (m, q.rhs, 0) ∧
    Vaglrc.pickRow x (tt g x) c q.rhs i j 0 = some (tasks (parts x (tt g x) j q.rhs i)) ∧
    (q ∈ g.rules → ∀ w ∈ parts x (tt g x) j q.rhs i, Val g x inf w) := by
  have wf := wf_withHoles ok px
  have gd : Good (hh g x) x (tt g x) := spans_good
  obtain ⟨_, _, hx⟩ := (mem_ends_path wf).mp f.there
  obtain ⟨m, q, h1, h2, h3, h4, h5⟩ := firstRoot_spec gd (k := 0) hx
  have hq : q ∈ (hh g x).rules := List.mem_of_getElem? h1
  refine ⟨m, q, h1, h2, h3, by rw [h4]; simp, pickRule_first sp ci al gd f h1 h2 h3 h5, pickRow_parts sp ci al gd f hq h2 (l0 := []) rfl rfl h3, fun hg w hw => ?_⟩
  obtain ⟨j1, l1, l2, j2, j3, j4⟩ := (parts_spec gd h3).2.2 w hw
  obtain ⟨s, i', j'⟩ := w
  cases s with
  | range lo hi => exact ⟨j1, (ok.rng q hg lo hi (by rw [j2]; simp)).2⟩
  | non b =>
    refine ⟨j1, fun hin => f.fin ?_⟩
    exact sp (a, i, j) (b, i', j') ((mem_nodesOf gd).mpr f.there) ⟨q, hq, h2, l1, l2, j2, j3, j1, j4⟩ hin
theorem lock : ∀ (k : Nat) (W : List (Sym × Nat × Nat)) (p e : Nat), (∀ w ∈ W, Val g x inf w) → Contig p W e →
    (Vaglrc.tell (hh g x) x (tt g x) c k (tasks W) = none → ∀ m, m ≤ k → (emit x (tt g x) (hh g x).rules (holeNo g x) m W).length = m) ∧
    (∀ y, Vaglrc.tell (hh g x) x (tt g x) c k (tasks W) = some y → ∃ z, (∀ m, emit x (tt g x) (hh g x).rules (holeNo g x) m W = z.take m) ∧
      (∀ f, z.length < f → Vaglrj.termFrom g g.rules.length x f (W.map (·.1)) p y = z) ∧ z.length ≤ 9 * y.length + (W.filter isR).length ∧
      Go g (inText x) (W.map (·.1)) z [] ∧ ∀ q, p ≤ q → q < e → 256 ≤ x.getD q 0 → (1000 + (Vaglrj.holeOf (x.getD q 0)).1) ∈ z) := by
  intro k
  induction k with
  | zero =>
    intro W
    induction W with
    | nil =>
      intro p e _ hc
      refine ⟨fun h => by simp [Vaglrc.tell] at h, fun y hy => ⟨[], ?_, ?_, by simp, .nil, ?_⟩⟩
      · intro m; cases m <;> simp [emit]
      · intro f hf
        cases f with
        | zero => omega
        | succ f => rfl
      · intro q h1 h2
        have : p = e := hc
        omega
    | cons w W ih =>
      intro p e hv hc
      obtain ⟨s, i, j⟩ := w
      have hvw := hv _ List.mem_cons_self
      obtain ⟨hip, hc2⟩ := hc
      have hip : i = p := hip
      subst hip
      cases s with
      | range lo hi =>
        obtain ⟨hm, hlt⟩ := hvw
        obtain ⟨b, hb, h1, h2, ej⟩ := symEnds_range hm
        have hc3 : Contig (i + 1) W e := by rw [← ej]; exact hc2
        obtain ⟨i1, i2⟩ := ih (i + 1) e (fun w hw => hv w (List.mem_cons_of_mem _ hw)) hc3
        refine ⟨fun h m hm => ?_, fun y hy => ?_⟩
        · have : m = 0 := by omega
          subst this; rfl
        · obtain ⟨z, z1, z2, z3, z4, z5⟩ := i2 y hy
          refine ⟨x.getD i 0 :: z, fun m => ?_, fun f hf => ?_, ?_, ?_, fun q hq1 hq2 hq3 => ?_⟩
          · cases m with
            | zero => rfl
            | succ m => show x.getD i 0 :: emit x (tt g x) (hh g x).rules (holeNo g x) m W = _; rw [z1]; rfl
          · cases f with
            | zero => omega
            | succ f =>
              show x.getD i 0 :: Vaglrj.termFrom g g.rules.length x f (W.map (·.1)) (i + 1) y = _
              rw [z2 f (by simp at hf; omega)]
          · have : (List.filter isR ((Sym.range lo hi, i, j) :: W)).length = (W.filter isR).length + 1 := rfl
            rw [this]; simp; omega
          · rw [getD_of hb]; exact .rng h1 h2 z4
          · by_cases hqi : q = i
            · subst hqi
              rw [getD_of hb] at hq3; omega
            · exact List.mem_cons_of_mem _ (z5 q (by omega) hq2 hq3)
      | non a =>
        refine ⟨fun h m hm => ?_, fun y hy => ?_⟩
        · have : m = 0 := by omega
          subst this; rfl
        · have : Vaglrc.tell (hh g x) x (tt g x) c 0 (({ non := a, from_ := i, to := j, nth := 0 } : Task) :: tasks W) = some y := hy
          simp [Vaglrc.tell] at this
  | succ k ihk =>
    intro W
    induction W with
    | nil =>
      intro p e _ hc
      refine ⟨fun h => by simp [Vaglrc.tell] at h, fun y hy => ⟨[], ?_, ?_, by simp, .nil, ?_⟩⟩
      · intro m; cases m <;> simp [emit]
      · intro f hf
        cases f with
        | zero => omega
        | succ f => rfl
      · intro q h1 h2
        have : p = e := hc
        omega
    | cons w W ih =>
      intro p e hv hc
      obtain ⟨s, i, j⟩ := w
      have hvw := hv _ List.mem_cons_self
      obtain ⟨hip, hc2⟩ := hc
      have hip : i = p := hip
      subst hip
      cases s with
      | range lo hi =>
        obtain ⟨hm, hlt⟩ := hvw
        obtain ⟨b, hb, h1, h2, ej⟩ := symEnds_range hm
        have hc3 : Contig (i + 1) W e := by rw [← ej]; exact hc2
        obtain ⟨i1, i2⟩ := ih (i + 1) e (fun w hw => hv w (List.mem_cons_of_mem _ hw)) hc3
        refine ⟨fun h m hm => ?_, fun y hy => ?_⟩
        · cases m with
          | zero => rfl
          | succ m =>
            show (x.getD i 0 :: emit x (tt g x) (hh g x).rules (holeNo g x) m W).length = m + 1
            rw [List.length_cons, i1 h m (by omega)]
        · obtain ⟨z, z1, z2, z3, z4, z5⟩ := i2 y hy
          refine ⟨x.getD i 0 :: z, fun m => ?_, fun f hf => ?_, ?_, ?_, fun q hq1 hq2 hq3 => ?_⟩
          · cases m with
            | zero => rfl
            | succ m => show x.getD i 0 :: emit x (tt g x) (hh g x).rules (holeNo g x) m W = _; rw [z1]; rfl
          · cases f with
            | zero => omega
            | succ f =>
              show x.getD i 0 :: Vaglrj.termFrom g g.rules.length x f (W.map (·.1)) (i + 1) y = _
              rw [z2 f (by simp at hf; omega)]
          · have : (List.filter isR ((Sym.range lo hi, i, j) :: W)).length = (W.filter isR).length + 1 := rfl
            rw [this]; simp; omega
          · rw [getD_of hb]; exact .rng h1 h2 z4
          · by_cases hqi : q = i
            · subst hqi
              rw [getD_of hb] at hq3; omega
            · exact List.mem_cons_of_mem _ (z5 q (by omega) hq2 hq3)
      | non a =>
        have f : Fine (hh g x) x (tt g x) inf a i j := hvw
        obtain ⟨m0, q0, r1, r2, r3, r4, r5, r6, r7⟩ := fine_root ok px sp ci al f
        have gd : Good (hh g x) x (tt g x) := spans_good
        have hpick : Vaglrc.tell (hh g x) x (tt g x) c (k + 1) (tasks ((Sym.non a, i, j) :: W)) = (Vaglrc.tell (hh g x) x (tt g x) c k (tasks (parts x (tt g x) j q0.rhs i) ++ tasks W)).map fun y => (m0, i, j) :: y := by
          show (match Vaglrc.pickRule x c a i j (Vaglrc.numbered (hh g x)) 0 with
            | none => none
            | some (r, s, m) => match Vaglrc.pickRow x (tt g x) c s i j m with
              | none => none
              | some ws => (Vaglrc.tell (hh g x) x (tt g x) c k (ws ++ tasks W)).map fun y => (r, i, j) :: y) = _
          rw [r5]
          simp only [r6]
        have hvW : ∀ w ∈ W, Val g x inf w := fun w hw => hv w (List.mem_cons_of_mem _ hw)
        rcases rule_cases r1 with ⟨g1, g2, g3, g4⟩ | ⟨s, s1, s2, s3, s4, s5⟩
        · -- a rule of the grammar's own
          have hv2 : ∀ w ∈ parts x (tt g x) j q0.rhs i ++ W, Val g x inf w := fun w hw => by
            rcases List.mem_append.mp hw with h | h
            · exact r7 g2 w h
            · exact hvW w h
          obtain ⟨p1, p2, _⟩ := parts_spec gd r3
          have hc4 : Contig i (parts x (tt g x) j q0.rhs i ++ W) e := contig_append p2 hc2
          have et : tasks (parts x (tt g x) j q0.rhs i) ++ tasks W = tasks (parts x (tt g x) j q0.rhs i ++ W) := by unfold tasks; rw [List.filterMap_append]
          rw [et] at hpick
          obtain ⟨i1, i2⟩ := ihk (parts x (tt g x) j q0.rhs i ++ W) i e hv2 hc4
          have hem : ∀ m, emit x (tt g x) (hh g x).rules (holeNo g x) (m + 1) ((Sym.non a, i, j) :: W) = m0 :: emit x (tt g x) (hh g x).rules (holeNo g x) m (parts x (tt g x) j q0.rhs i ++ W) := by
            intro m
            show (match firstRoot x (tt g x) a i j 0 (hh g x).rules with
              | none => []
              | some (r, ps) => match holeNo g x r with
                | some h => (1000 + h) :: emit x (tt g x) (hh g x).rules (holeNo g x) m W
                | none => r :: emit x (tt g x) (hh g x).rules (holeNo g x) m (ps ++ W)) = _
            rw [r4]
            simp only [g3]
          refine ⟨fun h m hm => ?_, fun y hy => ?_⟩
          · rw [hpick] at h
            have h' := Option.map_eq_none_iff.mp h
            cases m with
            | zero => rfl
            | succ m => rw [hem, List.length_cons, i1 h' m (by omega)]
          · rw [hpick] at hy
            obtain ⟨y', hy', ey⟩ := Option.map_eq_some_iff.mp hy
            subst ey
            obtain ⟨z, z1, z2, z3, z4, z5⟩ := i2 y' hy'
            have emap : (parts x (tt g x) j q0.rhs i ++ W).map (·.1) = q0.rhs ++ W.map (·.1) := by rw [List.map_append, p1]
            rw [emap] at z2 z4
            refine ⟨m0 :: z, fun m => ?_, fun f' hf => ?_, ?_, ?_, fun q hq1 hq2 hq3 => List.mem_cons_of_mem _ (z5 q hq1 hq2 hq3)⟩
            · cases m with
              | zero => rfl
              | succ m => rw [hem, z1]; rfl
            · cases f' with
              | zero => omega
              | succ f' =>
                show (if g.rules.length ≤ m0 then _ else m0 :: Vaglrj.termFrom g g.rules.length x f' (Vaglrj.symsOf g m0 ++ W.map (·.1)) i y') = _
                have es : Vaglrj.symsOf g m0 = q0.rhs := by unfold Vaglrj.symsOf; rw [g1]
                rw [if_neg g4, es, z2 f' (by simp at hf; omega)]
            · have h8 : ((parts x (tt g x) j q0.rhs i).filter isR).length ≤ 8 := by
                refine Nat.le_trans (List.length_filter_le _ _) ?_
                have : (parts x (tt g x) j q0.rhs i).length = q0.rhs.length := by rw [← p1, List.length_map, p1]
                rw [this]; exact ok.len q0 g2
              rw [List.filter_append, List.length_append] at z3
              have : (List.filter isR ((Sym.non a, i, j) :: W)).length = (W.filter isR).length := by simp [isR]
              rw [this]; simp; omega
            · exact .node g1 r2 z4
        · -- a hole's rule
          subst s3
          obtain ⟨k', hk', hk2⟩ := r3
          obtain ⟨b, hb, hb1, hb2, ek⟩ := symEnds_range hk'
          have ejk : k' = j := hk2
          have ebs : b = s := by omega
          subst ebs
          have ep : parts x (tt g x) j (holeRule b).rhs i = [(.range b b, i, i + 1)] := by
            show (match (Vaglrc.symEnds x (tt g x) (.range b b) i).find? fun q => decide (q ∈ [j]) with | some q => (Sym.range b b, i, q) :: parts x (tt g x) j [] q | none => []) = _
            have e1 : Vaglrc.symEnds x (tt g x) (.range b b) i = [i + 1] := by
              show (match x[i]? with | some b' => if b ≤ b' then (if b' ≤ b then [i + 1] else []) else [] | none => []) = _
              rw [hb]; simp
            rw [e1, ← ejk, ek]
            simp [parts]
          rw [ep] at hpick r4
          have et : tasks [(Sym.range b b, i, i + 1)] ++ tasks W = tasks W := rfl
          rw [et] at hpick
          have hc5 : Contig (i + 1) W e := by rw [← ek, ejk]; exact hc2
          obtain ⟨i1, i2⟩ := ihk W (i + 1) e hvW hc5
          have hem : ∀ m, emit x (tt g x) (hh g x).rules (holeNo g x) (m + 1) ((Sym.non a, i, j) :: W) = (1000 + (Vaglrj.holeOf b).1) :: emit x (tt g x) (hh g x).rules (holeNo g x) m W := by
            intro m
            show (match firstRoot x (tt g x) a i j 0 (hh g x).rules with
              | none => []
              | some (r, ps) => match holeNo g x r with
                | some h => (1000 + h) :: emit x (tt g x) (hh g x).rules (holeNo g x) m W
                | none => r :: emit x (tt g x) (hh g x).rules (holeNo g x) m (ps ++ W)) = _
            rw [r4]
            simp only [s4]
          refine ⟨fun h m hm => ?_, fun y hy => ?_⟩
          · rw [hpick] at h
            have h' := Option.map_eq_none_iff.mp h
            cases m with
            | zero => rfl
            | succ m => rw [hem, List.length_cons, i1 h' m (by omega)]
          · rw [hpick] at hy
            obtain ⟨y', hy', ey⟩ := Option.map_eq_some_iff.mp hy
            subst ey
            obtain ⟨z, z1, z2, z3, z4, z5⟩ := i2 y' hy'
            refine ⟨(1000 + (Vaglrj.holeOf b).1) :: z, fun m => ?_, fun f' hf => ?_, ?_, ?_, fun q hq1 hq2 hq3 => ?_⟩
            · cases m with
              | zero => rfl
              | succ m => rw [hem, z1]; rfl
            · cases f' with
              | zero => omega
              | succ f' =>
                show (if g.rules.length ≤ m0 then (Vaglrj.HOLE + (Vaglrj.holeOf (x.getD i 0)).1) :: Vaglrj.termFrom g g.rules.length x f' (W.map (·.1)) (i + 1) y' else _) = _
                rw [if_pos s5, z2 f' (by simp at hf; omega), getD_of hb]; rfl
            · have : (List.filter isR ((Sym.non a, i, j) :: W)).length = (W.filter isR).length := by simp [isR]
              rw [this]; simp; omega
            · refine .hole ?_ z4
              have ea : (Vaglrj.holeOf b).2 = a := r2
              have h32 : (Vaglrj.holeOf b).2 < 32 := by unfold Vaglrj.holeOf; exact Nat.mod_lt _ (by omega)
              rw [← ea]
              refine ⟨h32, ?_⟩
              rw [hole_sign s2]; exact s1
            · by_cases hqi : q = i
              · subst hqi
                rw [getD_of hb]; exact List.mem_cons_self
              · exact List.mem_cons_of_mem _ (z5 q (by omega) hq2 hq3)
end

section
variable {g : Grammar} {x : List Nat}
/-- the first term, cut behind 401 numbers -/
def firstTerm (g : Grammar) (x : List Nat) (a : Nat) : List Nat := emit x (tt g x) (hh g x).rules (holeNo g x) 401 [(.non a, 0, x.length)]
theorem said_uncovered {a : Nat} (h : x.length ∉ Vaglrc.ends (tt g x) a 0) : Vaglrj.saidBy g a x = .uncovered := by
  unfold Vaglrj.saidBy
  have e : Vaglrc.covers (tt g x) a 0 x.length = false := by
    rw [← Bool.not_eq_true]
    exact fun q => h (covers_iff.mp q)
  simp only [e, Bool.not_false, if_true]
theorem said_endless (ok : GOk g) (px : POk g x) {a : Nat} (h : x.length ∈ Vaglrc.ends (tt g x) a 0) (he : Endless (hh g x) x (tt g x) (a, 0, x.length)) : Vaglrj.saidBy g a x = .endless := by
  have wf := wf_withHoles ok px
  unfold Vaglrj.saidBy
  have e : Vaglrc.covers (tt g x) a 0 x.length = true := covers_iff.mpr h
  simp only [e, Bool.not_true, (count_none wf h).mpr he]
  rfl
/-- a term of a text: its form -/
structure TermOk (g : Grammar) (S : Nat → Nat → Prop) (a : Nat) (z : List Nat) : Prop where
  go : Go g S [.non a] z []
  len : z.length ≤ 400
theorem said_fin (ok : GOk g) (px : POk g x) {a : Nat} (h : x.length ∈ Vaglrc.ends (tt g x) a 0) (he : ¬ Endless (hh g x) x (tt g x) (a, 0, x.length)) :
    (400 < (firstTerm g x a).length → Vaglrj.saidBy g a x = .great) ∧
    (¬ 400 < (firstTerm g x a).length → Vaglrj.saidBy g a x = .term (firstTerm g x a) ∧ TermOk g (inText x) a (firstTerm g x a) ∧ ∀ s ∈ x, 256 ≤ s → (1000 + (Vaglrj.holeOf s).1) ∈ firstTerm g x a) := by
  have wf := wf_withHoles ok px
  obtain ⟨ci, al⟩ := counts_spec (x := x) wf
  have sp := spread_infinite (g := hh g x) (x := x) spans_good
  have f : Fine (hh g x) x (tt g x) (Vaglrc.infinite (hh g x) (Vaglrc.links (hh g x) x (tt g x))) a 0 x.length := ⟨h, fun q => he ((mem_infinite spans_good).mp q).2⟩
  have hv : ∀ w ∈ [((.non a, 0, x.length) : Sym × Nat × Nat)], Val g x (Vaglrc.infinite (hh g x) (Vaglrc.links (hh g x) x (tt g x))) w := fun w hw => by
    have : w = (.non a, 0, x.length) := by simpa using hw
    subst this; exact f
  obtain ⟨l1, l2⟩ := lock ok px sp ci al Vaglrc.NODES [(.non a, 0, x.length)] 0 x.length hv ⟨rfl, rfl⟩
  have e : Vaglrc.covers (tt g x) a 0 x.length = true := covers_iff.mpr h
  have hcn : ∃ v, Vaglrc.countAt (Vaglrc.countsOf (hh g x) x) a 0 x.length = some v := by
    cases q : Vaglrc.countAt (Vaglrc.countsOf (hh g x) x) a 0 x.length with
    | none => exact absurd ((count_none wf h).mp q) he
    | some v => exact ⟨v, rfl⟩
  obtain ⟨v, hv2⟩ := hcn
  have hs : Vaglrj.saidBy g a x = (match Vaglrc.tell (hh g x) x (tt g x) (Vaglrc.countsOf (hh g x) x) Vaglrc.NODES (tasks [(.non a, 0, x.length)]) with
      | none => .great
      | some y => if Vaglrj.SIZE < (Vaglrj.termFrom g g.rules.length x (9 * y.length + 9) [.non a] 0 y).length then .great else .term (Vaglrj.termFrom g g.rules.length x (9 * y.length + 9) [.non a] 0 y)) := by
    unfold Vaglrj.saidBy
    simp only [e, hv2]
    rfl
  cases ht : Vaglrc.tell (hh g x) x (tt g x) (Vaglrc.countsOf (hh g x) x) Vaglrc.NODES (tasks [(.non a, 0, x.length)]) with
  | none =>
    rw [ht] at hs
    have := l1 ht 401 (by decide)
    refine ⟨fun _ => hs, fun hn => ?_⟩
    exact absurd (show 400 < (firstTerm g x a).length by unfold firstTerm; rw [this]; omega) hn
  | some y =>
    rw [ht] at hs
    obtain ⟨z, z1, z2, z3, z4, z5⟩ := l2 y ht
    have hz : z.length ≤ 9 * y.length := by
      have : (List.filter isR [((.non a, 0, x.length) : Sym × Nat × Nat)]).length = 0 := rfl
      omega
    have et : Vaglrj.termFrom g g.rules.length x (9 * y.length + 9) [.non a] 0 y = z := z2 _ (by omega)
    have hs2 : Vaglrj.saidBy g a x = if Vaglrj.SIZE < z.length then .great else .term z := by rw [hs]; simp only [et]
    have ef : firstTerm g x a = z.take 401 := z1 401
    refine ⟨fun hl => ?_, fun hl => ?_⟩
    · rw [hs2, if_pos]
      rw [ef, List.length_take] at hl
      show 400 < z.length
      omega
    · rw [ef, List.length_take] at hl
      have hl2 : z.length ≤ 400 := by omega
      have ez : firstTerm g x a = z := by rw [ef]; exact List.take_of_length_le (by omega)
      rw [ez]
      refine ⟨?_, ⟨z4, hl2⟩, fun s hs3 h256 => ?_⟩
      · rw [hs2, if_neg]
        show ¬ 400 < z.length
        omega
      · obtain ⟨i, hi, es⟩ := List.mem_iff_getElem.mp hs3
        have eg : x.getD i 0 = s := getD_of (by rw [List.getElem?_eq_getElem hi, es])
        have := z5 i (Nat.zero_le _) hi (by rw [eg]; exact h256)
        rw [eg] at this
        exact this
end
end TR
set_option linter.all false
/-! Terms: their nodes, what stands beneath one, matching, filling, steps. -/
namespace TR
open Vaglrc (Sym Rule Grammar)
open Vaglrj (Term Binding Rewrite)

abbrev NoHole : Nat → Nat → Prop := fun _ _ => False
section
variable {g : Grammar} {S : Nat → Nat → Prop}
theorem Go.trans {l l' m : List Sym} {y z : List Nat} (h : Go g S l y l') (k : Go g S l' z m) : Go g S l (y ++ z) m := by
  induction h with
  | nil => exact k
  | rng h1 h2 _ ih => exact .rng h1 h2 (ih k)
  | hole h1 _ ih => exact .hole h1 (ih k)
  | node h1 h2 _ ih => exact .node h1 h2 (ih k)
theorem Go.frame {l l' : List Sym} {y : List Nat} (h : Go g S l y l') (k : List Sym) : Go g S (l ++ k) y (l' ++ k) := by
  induction h with
  | nil => exact .nil
  | rng h1 h2 _ ih => exact .rng h1 h2 ih
  | hole h1 _ ih => exact .hole h1 ih
  | @node c a q l l' r h1 h2 _ ih => exact .node h1 h2 (by have ih' := ih; rw [List.append_assoc] at ih'; exact ih')
theorem Go.inv_non {a c : Nat} {l l' : List Sym} {r : List Nat} (h : Go g S (.non a :: l) (c :: r) l') : (∃ k, c = 1000 + k ∧ S k a ∧ Go g S l r l') ∨ ∃ q, g.rules[c]? = some q ∧ q.lhs = a ∧ Go g S (q.rhs ++ l) r l' := by
  cases h with
  | hole h1 h2 => exact .inl ⟨_, rfl, h1, h2⟩
  | node h1 h2 h3 => exact .inr ⟨_, h1, h2, h3⟩
theorem Go.append {l k m : List Sym} {u v : List Nat} (h : Go g S l u []) (h2 : Go g S k v m) : Go g S (l ++ k) (u ++ v) m := (h.frame k).trans h2
theorem Go.cut {l m : List Sym} : ∀ {u v : List Nat}, Go g S l (u ++ v) m → ∃ l', Go g S l u l' ∧ Go g S l' v m := by
  intro u
  induction u generalizing l with
  | nil => intro v h; exact ⟨l, .nil, h⟩
  | cons c u ih =>
    intro v h
    cases h with
    | rng h1 h2 h3 => obtain ⟨l', a, b⟩ := ih h3; exact ⟨l', .rng h1 h2 a, b⟩
    | hole h1 h3 => obtain ⟨l', a, b⟩ := ih h3; exact ⟨l', .hole h1 a, b⟩
    | node h1 h2 h3 => obtain ⟨l', a, b⟩ := ih h3; exact ⟨l', .node h1 h2 a, b⟩
theorem Go.split {k : List Sym} : ∀ {y : List Nat} {l : List Sym}, Go g S (l ++ k) y [] → ∃ u v, y = u ++ v ∧ Go g S l u [] ∧ Go g S k v [] := by
  intro y
  induction y with
  | nil =>
    intro l h
    generalize hl : l ++ k = lk at h
    cases h with
    | nil =>
      obtain ⟨h1, h2⟩ := List.append_eq_nil_iff.mp hl
      subst h1; subst h2
      exact ⟨[], [], rfl, .nil, .nil⟩
  | cons c y ih =>
    intro l h
    cases l with
    | nil => exact ⟨[], c :: y, rfl, .nil, h⟩
    | cons s l =>
      have h' : Go g S (s :: (l ++ k)) (c :: y) [] := h
      cases h' with
      | rng h1 h2 h3 =>
        obtain ⟨u, v, e, a, b⟩ := ih h3
        exact ⟨c :: u, v, by rw [e]; rfl, .rng h1 h2 a, b⟩
      | hole h1 h3 =>
        obtain ⟨u, v, e, a, b⟩ := ih h3
        exact ⟨_ :: u, v, by rw [e]; rfl, .hole h1 a, b⟩
      | node h1 h2 h3 =>
        rw [← List.append_assoc] at h3
        obtain ⟨u, v, e, a, b⟩ := ih h3
        exact ⟨c :: u, v, by rw [e]; rfl, .node h1 h2 a, b⟩
theorem Go.ne_nil {s : Sym} {l : List Sym} {y : List Nat} (h : Go g S (s :: l) y []) : y ≠ [] := by
  rintro rfl
  cases h
theorem Go.mono {S' : Nat → Nat → Prop} (hs : ∀ k a, S k a → S' k a) {l l' : List Sym} {y : List Nat} (h : Go g S l y l') : Go g S' l y l' := by
  induction h with
  | nil => exact .nil
  | rng h1 h2 _ ih => exact .rng h1 h2 ih
  | hole h1 _ ih => exact .hole (hs _ _ h1) ih
  | node h1 h2 _ ih => exact .node h1 h2 ih
/-- the stack behind some numbers is one -/
theorem Go.det (hl : g.rules.length ≤ 1000) {l m : List Sym} {y : List Nat} (h : Go g S l y m) : ∀ {m' : List Sym}, Go g S l y m' → m = m' := by
  induction h with
  | nil => intro m' h; cases h; rfl
  | rng h1 h2 _ ih => intro m' h; cases h with | rng _ _ h3 => exact ih h3
  | hole h1 _ ih =>
    intro m' h
    rcases h.inv_non with ⟨_, _, _, h3⟩ | ⟨q, h3, _, _⟩
    · exact ih h3
    · have := (List.getElem?_eq_some_iff.mp h3).1
      omega
  | @node c a q l l' r h1 h2 _ ih =>
    intro m' h
    rcases h.inv_non with ⟨k, e, _, h3⟩ | ⟨q', h3, _, h5⟩
    · have := (List.getElem?_eq_some_iff.mp h1).1
      omega
    · rw [h1] at h3; cases h3
      exact ih h5
end

/-! ### kinds: which places are nodes -/
def kinds (g : Grammar) : List Sym → List Nat → List Bool
  | _, [] => []
  | [], _ :: _ => []
  | .range _ _ :: l, _ :: r => false :: kinds g l r
  | .non _ :: l, c :: r => true :: kinds g (Vaglrj.symsOf g c ++ l) r
def isNon : Sym → Bool
  | .non _ => true
  | .range _ _ => false
def trues : Nat → List Bool → List Nat
  | _, [] => []
  | i, true :: l => i :: trues (i + 1) l
  | i, false :: l => trues (i + 1) l
def bytesOf (g : Grammar) (l : List Sym) (y : List Nat) : List Nat := ((y.zip (kinds g l y)).filter fun p => !p.2).map (·.1)
section
variable {g : Grammar}
theorem symsOf_eq {c : Nat} {q : Rule} (h : g.rules[c]? = some q) : Vaglrj.symsOf g c = q.rhs := by unfold Vaglrj.symsOf; rw [h]
theorem lhsOf_eq {c : Nat} {q : Rule} (h : g.rules[c]? = some q) : Vaglrj.lhsOf g c = some q.lhs := by unfold Vaglrj.lhsOf; rw [h]; rfl
theorem kinds_node {c a : Nat} {q : Rule} {l : List Sym} {r : List Nat} (h : g.rules[c]? = some q) : kinds g (.non a :: l) (c :: r) = true :: kinds g (q.rhs ++ l) r := by
  show true :: kinds g (Vaglrj.symsOf g c ++ l) r = _
  rw [symsOf_eq h]
theorem kinds_length {l l' : List Sym} {y : List Nat} (h : Go g NoHole l y l') : (kinds g l y).length = y.length := by
  induction h with
  | nil => cases ‹List Sym› <;> rfl
  | rng _ _ _ ih => show (_ :: _).length = _; simp [ih]
  | hole h1 _ _ => exact h1.elim
  | node h1 h2 _ ih => rw [kinds_node h1]; simp [ih]
/-- kinds from a place on, by the stack there -/
theorem kinds_drop {l l' : List Sym} {y z : List Nat} (h : Go g NoHole l y l') : kinds g l (y ++ z) = kinds g l y ++ kinds g l' z := by
  induction h with
  | @nil l => cases l <;> rfl
  | @rng lo hi b l l' r _ _ _ ih =>
    show false :: kinds g l (r ++ z) = false :: (kinds g l r ++ kinds g l' z)
    rw [ih]
  | hole h1 _ _ => exact h1.elim
  | @node c a q l l' r h1 h2 _ ih =>
    rw [List.cons_append, kinds_node h1, kinds_node h1, ih]; rfl
theorem kinds_at {l : List Sym} {s : Sym} {m : List Sym} {u v : List Nat} (h : Go g NoHole l u (s :: m)) (hv : v ≠ []) : (kinds g l (u ++ v))[u.length]? = some (isNon s) := by
  rw [kinds_drop h, List.getElem?_append_right (by rw [kinds_length h]; exact Nat.le_refl _), kinds_length h, Nat.sub_self]
  cases v with
  | nil => exact absurd rfl hv
  | cons c v => cases s <;> rfl
theorem isHole_small {c : Nat} (h : c < 1000) : Vaglrj.isHole c = false := decide_eq_false (by show ¬ 1000 ≤ c; omega)
theorem isHole_big {c : Nat} (h : 1000 ≤ c) : Vaglrj.isHole c = true := decide_eq_true h
variable (ok : GOk g)
include ok
theorem rule_small {c : Nat} {q : Rule} (h : g.rules[c]? = some q) : c < 1000 := by
  have := (List.getElem?_eq_some_iff.mp h).1
  have := ok.many
  omega
theorem nodesFrom_eq {l : List Sym} {y : List Nat} (h : Go g NoHole l y []) : ∀ {k i : Nat}, y.length < k → Vaglrj.nodesFrom g k i l y = trues i (kinds g l y) := by
  generalize e : ([] : List Sym) = m at h
  induction h with
  | nil =>
    subst e
    intro k i hk
    cases k with
    | zero => omega
    | succ k => rfl
  | @rng lo hi b l l' r _ _ _ ih =>
    intro k i hk
    cases k with
    | zero => omega
    | succ k =>
      show Vaglrj.nodesFrom g k (i + 1) l r = trues (i + 1) (kinds g l r)
      exact ih e (by simp at hk; omega)
  | hole h1 _ _ => exact h1.elim
  | @node c a q l l' r h1 h2 _ ih =>
    intro k i hk
    cases k with
    | zero => omega
    | succ k =>
      rw [kinds_node h1]
      show (if Vaglrj.isHole c then _ else i :: Vaglrj.nodesFrom g k (i + 1) (Vaglrj.symsOf g c ++ l) r) = i :: trues (i + 1) (kinds g (q.rhs ++ l) r)
      rw [isHole_small (rule_small ok h1), symsOf_eq h1, ← ih e (by simp at hk; omega)]
      rfl
theorem yieldFrom_eq {l : List Sym} {y : List Nat} (h : Go g NoHole l y []) : ∀ {k : Nat}, y.length < k → Vaglrj.yieldFrom g k l y = bytesOf g l y := by
  generalize e : ([] : List Sym) = m at h
  induction h with
  | nil =>
    subst e
    intro k hk
    cases k with
    | zero => omega
    | succ k => rfl
  | @rng lo hi b l l' r _ _ _ ih =>
    intro k hk
    cases k with
    | zero => omega
    | succ k =>
      show b :: Vaglrj.yieldFrom g k l r = _
      rw [ih e (by simp at hk; omega)]
      rfl
  | hole h1 _ _ => exact h1.elim
  | @node c a q l l' r h1 h2 _ ih =>
    intro k hk
    cases k with
    | zero => omega
    | succ k =>
      show (if Vaglrj.isHole c then _ else Vaglrj.yieldFrom g k (Vaglrj.symsOf g c ++ l) r) = _
      rw [isHole_small (rule_small ok h1), symsOf_eq h1]
      unfold bytesOf
      rw [kinds_node h1]
      show Vaglrj.yieldFrom g k (q.rhs ++ l) r = _
      rw [ih e (by simp at hk; omega)]
      rfl
theorem behind_eq {l : List Sym} {u : List Nat} (h : Go g NoHole l u []) : ∀ {k : Nat} {v : List Nat}, u.length < k → Vaglrj.behind g false k l (u ++ v) = some v := by
  generalize e : ([] : List Sym) = m at h
  induction h with
  | nil =>
    subst e
    intro k v hk
    cases k with
    | zero => omega
    | succ k => rfl
  | @rng lo hi b l l' r h1 h2 _ ih =>
    intro k v hk
    cases k with
    | zero => omega
    | succ k =>
      show (if lo ≤ b then (if b ≤ hi then Vaglrj.behind g false k l (r ++ v) else none) else none) = some v
      rw [if_pos h1, if_pos h2]
      exact ih e (by simp at hk; omega)
  | hole h1 _ _ => exact h1.elim
  | @node c a q l l' r h1 h2 _ ih =>
    intro k v hk
    cases k with
    | zero => omega
    | succ k =>
      show (if Vaglrj.isHole c then _ else if Vaglrj.lhsOf g c == some a then Vaglrj.behind g false k (Vaglrj.symsOf g c ++ l) (r ++ v) else none) = some v
      rw [isHole_small (rule_small ok h1), symsOf_eq h1, lhsOf_eq h1, h2, if_neg (by simp), if_pos (by simp)]
      exact ih e (by simp at hk; omega)
theorem subTerm_eq {a : Nat} {u v : List Nat} (h : Go g NoHole [.non a] u []) : Vaglrj.subTerm g (u ++ v) = some (u, v) := by
  cases u with
  | nil => cases h
  | cons c u =>
    have hb := behind_eq ok h (k := Vaglrj.enough (c :: u ++ v)) (v := v) (by unfold Vaglrj.enough; simp; omega)
    have hl : Vaglrj.lhsOf g c = some a := by
      cases h with
      | hole h1 _ => exact h1.elim
      | node h1 h2 _ => rw [lhsOf_eq h1, h2]
    show (match Vaglrj.lhsOf g c with | none => none | some a => (Vaglrj.behind g false (Vaglrj.enough (c :: u ++ v)) [.non a] (c :: u ++ v)).map fun (r : List Nat) => ((c :: u ++ v).take ((c :: u ++ v).length - r.length), r)) = _
    rw [hl]
    simp only [hb, Option.map_some]
    congr 2
    rw [List.length_append, Nat.add_sub_cancel, List.take_left]

/-! ### where what begins at a place ends -/
def stopN (g : Grammar) (bs : List Bool) (y : List Nat) (i : Nat) : Nat := if bs.getD i false = true then y.length - ((Vaglrj.subTerm g (y.drop i)).map fun p => p.2.length).getD 0 else i + 1
theorem stop_eq {a : Nat} {p u v : List Nat} {s : Sym} {m : List Sym} (h1 : Go g NoHole [.non a] p (s :: m)) (h2 : Go g NoHole [s] u []) :
    stopN g (kinds g [.non a] (p ++ (u ++ v))) (p ++ (u ++ v)) p.length = p.length + u.length := by
  have hne : u ++ v ≠ [] := by
    intro e
    exact h2.ne_nil (List.append_eq_nil_iff.mp e).1
  have hk := kinds_at h1 hne
  unfold stopN
  have hg : (kinds g [.non a] (p ++ (u ++ v))).getD p.length false = isNon s := by unfold List.getD; rw [hk]; rfl
  rw [hg]
  cases s with
  | range lo hi =>
    rw [if_neg (by simp [isNon])]
    cases h2 with
    | rng _ _ h3 => cases h3; rfl
  | non b =>
    have ei : isNon (Sym.non b) = true := rfl
    rw [if_pos ei, List.drop_left, subTerm_eq ok h2]
    simp only [Option.map_some, Option.getD_some, List.length_append]
    omega
end

/-! ### holes -/
theorem bound_mem {b : Binding} {k : Nat} {u : Term} (h : Vaglrj.bound b k = some u) : (k, u) ∈ b := by
  unfold Vaglrj.bound at h
  obtain ⟨p, hp, e⟩ := Option.map_eq_some_iff.mp h
  have h1 := List.mem_of_find?_eq_some hp
  have h2 : p.1 = k := by simpa using List.find?_some hp
  obtain ⟨q, v⟩ := p
  simp only at h2 e
  subst h2; subst e
  exact h1
theorem bound_app {b b' : Binding} {k : Nat} {u : Term} (h : Vaglrj.bound b k = some u) : Vaglrj.bound (b ++ b') k = some u := by
  unfold Vaglrj.bound at h ⊢
  obtain ⟨p, hp, e⟩ := Option.map_eq_some_iff.mp h
  rw [List.find?_append, hp]
  exact congrArg some e
theorem bound_new {b : Binding} {k : Nat} {u : Term} (h : Vaglrj.bound b k = none) : Vaglrj.bound (b ++ [(k, u)]) k = some u := by
  unfold Vaglrj.bound at h ⊢
  have hn := Option.map_eq_none_iff.mp h
  rw [List.find?_append, hn]
  simp
section
variable {g : Grammar} {S : Nat → Nat → Prop}
/-- each hole stands for a term of a nonterminal that it may stand for -/
def BOk (g : Grammar) (S : Nat → Nat → Prop) (b : Binding) : Prop := ∀ k u, (k, u) ∈ b → ∃ a, S k a ∧ Go g NoHole [.non a] u []
def ROk (l : List Sym) : Prop := ∀ lo hi, Sym.range lo hi ∈ l → hi < 256
theorem rok_rule (ok : GOk g) {c : Nat} {q : Rule} (h : g.rules[c]? = some q) {l : List Sym} (hl : ROk l) : ROk (q.rhs ++ l) := fun lo hi hm => by
  rcases List.mem_append.mp hm with h1 | h1
  · exact (ok.rng q (List.mem_of_getElem? h) lo hi h1).2
  · exact hl lo hi h1
theorem matchRow_hole {k : Nat} {p y : List Nat} {b : Binding} : Vaglrj.matchRow g ((1000 + k) :: p) y b = (match Vaglrj.subTerm g y with
    | none => none
    | some (t, r) => match Vaglrj.bound b k with
      | some u => if u == t then Vaglrj.matchRow g p r b else none
      | none => Vaglrj.matchRow g p r (b ++ [(k, t)])) := by
  have e : (1000 + k) - Vaglrj.HOLE = k := by show 1000 + k - 1000 = k; omega
  have : Vaglrj.matchRow g ((1000 + k) :: p) y b = if Vaglrj.isHole (1000 + k) then (match Vaglrj.subTerm g y with
    | none => none
    | some (t, r) => match Vaglrj.bound b ((1000 + k) - Vaglrj.HOLE) with
      | some u => if u == t then Vaglrj.matchRow g p r b else none
      | none => Vaglrj.matchRow g p r (b ++ [((1000 + k) - Vaglrj.HOLE, t)])) else (match y with | [] => none | d :: r => if (1000 + k) == d then Vaglrj.matchRow g p r b else none) := rfl
  rw [this, isHole_big (by omega), if_pos rfl, e]
theorem matchRow_num {c d : Nat} {p y : List Nat} {b : Binding} (hc : c < 1000) : Vaglrj.matchRow g (c :: p) (d :: y) b = if c = d then Vaglrj.matchRow g p y b else none := by
  have : Vaglrj.matchRow g (c :: p) (d :: y) b = if Vaglrj.isHole c then (match Vaglrj.subTerm g (d :: y) with
    | none => none
    | some (t, r) => match Vaglrj.bound b (c - Vaglrj.HOLE) with
      | some u => if u == t then Vaglrj.matchRow g p r b else none
      | none => Vaglrj.matchRow g p r (b ++ [(c - Vaglrj.HOLE, t)])) else (if c == d then Vaglrj.matchRow g p y b else none) := rfl
  rw [this, isHole_small hc, if_neg (by simp)]
  by_cases e : c = d
  · rw [if_pos (by simpa using e), if_pos e]
  · rw [if_neg (by simpa using e), if_neg e]
/-- one number of a pattern's term, against a term that is read from the same symbols: a hole, or a number -/
inductive Turn1 (g : Grammar) (S : Nat → Nat → Prop) : List Sym → Nat → List Nat → List Sym → List Nat → Prop where
  | hole {a k : Nat} {l l' : List Sym} {p u v : List Nat} : S k a → Go g S l p [] → Go g NoHole [.non a] u [] → Go g NoHole (l ++ l') v [] → Turn1 g S (.non a :: l) (1000 + k) p l' (u ++ v)
theorem turn_cases (ok : GOk g) {c : Nat} {p : List Nat} {l l' : List Sym} {y : List Nat} (h1 : Go g S l (c :: p) []) (hr : ROk l) (h2 : Go g NoHole (l ++ l') y []) :
    (∃ a k l1 u v, c = 1000 + k ∧ S k a ∧ l = .non a :: l1 ∧ Go g S l1 p [] ∧ y = u ++ v ∧ Go g NoHole [.non a] u [] ∧ Go g NoHole (l1 ++ l') v []) ∨
    (c < 1000 ∧ ∃ d y', y = d :: y' ∧ (d = c → ∃ s l1 l2, l = s :: l1 ∧ Go g S l2 p [] ∧ ROk l2 ∧ Go g NoHole (l2 ++ l') y' [] ∧
      ∀ u, Go g NoHole l2 u [] → Go g NoHole l (c :: u) [])) := by
  cases l with
  | nil => cases h1
  | cons s l =>
    have h2' : Go g NoHole (s :: (l ++ l')) y [] := h2
    cases s with
    | range lo hi =>
      have hlt := hr lo hi List.mem_cons_self
      cases h1 with
      | rng h3 h4 h5 =>
        cases h2' with
        | @rng _ _ d _ _ y' h6 h7 h8 =>
          refine .inr ⟨by omega, d, y', rfl, fun e => ⟨_, _, l, rfl, h5, fun lo hi hm => hr lo hi (List.mem_cons_of_mem _ hm), h8, fun u hu => .rng h3 h4 hu⟩⟩
    | non a =>
      rcases h1.inv_non with ⟨k, ek, h3, h5⟩ | ⟨q, h3, h4, h5⟩
      · have h2'' : Go g NoHole ([.non a] ++ (l ++ l')) y [] := h2'
        obtain ⟨u, v, e, a1, a2⟩ := h2''.split
        exact .inl ⟨a, k, l, u, v, ek, h3, rfl, h5, e, a1, a2⟩
      · have hc := rule_small ok h3
        cases y with
        | nil => exact absurd rfl h2'.ne_nil
        | cons d y' =>
          refine .inr ⟨hc, d, y', rfl, fun e => ?_⟩
          subst e
          rcases h2'.inv_non with ⟨_, _, hf, _⟩ | ⟨q', h6, h7, h8⟩
          · exact hf.elim
          · rw [h3] at h6; cases h6
            refine ⟨_, _, q.rhs ++ l, rfl, h5, rok_rule ok h3 fun lo hi hm => hr lo hi (List.mem_cons_of_mem _ hm), by rw [List.append_assoc]; exact h8, fun u hu => .node h3 h4 hu⟩
/-- of a pattern's term what is behind a match: the term that was matched is read from the same symbols -/
theorem match_spec (ok : GOk g) : ∀ {p : List Nat} {l l' : List Sym} {y : List Nat} {b b' : Binding} {r : List Nat}, Go g S l p [] → ROk l → Go g NoHole (l ++ l') y [] → BOk g S b → Vaglrj.matchRow g p y b = some (b', r) →
    ∃ u, y = u ++ r ∧ Go g NoHole l u [] ∧ Go g NoHole l' r [] ∧ BOk g S b' ∧ (∀ k u, Vaglrj.bound b k = some u → Vaglrj.bound b' k = some u) ∧ ∀ k, (1000 + k) ∈ p → ∃ u, Vaglrj.bound b' k = some u := by
  intro p
  induction p with
  | nil =>
    intro l l' y b b' r h1 hr h2 hb hm
    cases h1
    have e : (b, y) = (b', r) := Option.some.inj hm
    cases e
    exact ⟨[], rfl, .nil, h2, hb, fun _ _ h => h, fun k hk => by simp at hk⟩
  | cons c p ih =>
    intro l l' y b b' r h1 hr h2 hb hm
    rcases turn_cases ok h1 hr h2 with ⟨a, k, l1, u, v, ek, hS, el, g1, ey, g2, g3⟩ | ⟨hc, d, y', ey, hd⟩
    · subst ek; subst el; subst ey
      have hr1 : ROk l1 := fun lo hi hm => hr lo hi (List.mem_cons_of_mem _ hm)
      rw [matchRow_hole, subTerm_eq ok g2] at hm
      simp only at hm
      cases hbd : Vaglrj.bound b k with
      | none =>
        rw [hbd] at hm
        have hb2 : BOk g S (b ++ [(k, u)]) := fun k' u' hm' => by
          rcases List.mem_append.mp hm' with h | h
          · exact hb k' u' h
          · have : (k', u') = (k, u) := by simpa using h
            cases this
            exact ⟨a, hS, g2⟩
        obtain ⟨w, e1, e2, e3, e4, e5, e6⟩ := ih g1 hr1 g3 hb2 hm
        refine ⟨u ++ w, by rw [e1, List.append_assoc], ?_, e3, e4, fun k' u' h => e5 k' u' (bound_app h), fun k' hk' => ?_⟩
        · exact Go.append (l := [.non a]) g2 e2
        · rcases List.mem_cons.mp hk' with e | hk'
          · have : k' = k := by omega
            subst this
            exact ⟨u, e5 k' u (bound_new hbd)⟩
          · exact e6 k' hk'
      | some u0 =>
        rw [hbd] at hm
        simp only at hm
        by_cases e : u0 = u
        · rw [if_pos (by simpa using e)] at hm
          obtain ⟨w, e1, e2, e3, e4, e5, e6⟩ := ih g1 hr1 g3 hb hm
          refine ⟨u ++ w, by rw [e1, List.append_assoc], ?_, e3, e4, e5, fun k' hk' => ?_⟩
          · exact Go.append (l := [.non a]) g2 e2
          · rcases List.mem_cons.mp hk' with e | hk'
            · have : k' = k := by omega
              subst this
              exact ⟨u0, e5 k' u0 hbd⟩
            · exact e6 k' hk'
        · rw [if_neg (by simpa using e)] at hm; cases hm
    · subst ey
      rw [matchRow_num hc] at hm
      by_cases e : c = d
      · rw [if_pos e] at hm
        obtain ⟨s, l1, l2, el, g1, g2, g3, g4⟩ := hd e.symm
        obtain ⟨w, e1, e2, e3, e4, e5, e6⟩ := ih g1 g2 g3 hb hm
        refine ⟨c :: w, by rw [e1, e]; rfl, g4 w e2, e3, e4, e5, fun k' hk' => ?_⟩
        rcases List.mem_cons.mp hk' with e | hk'
        · omega
        · exact e6 k' hk'
      · rw [if_neg e] at hm; cases hm
/-! ### filling -/
theorem filled_nil {b : Binding} : Vaglrj.filled [] b = [] := rfl
theorem filled_cons {c : Nat} {p : List Nat} {b : Binding} : Vaglrj.filled (c :: p) b = (if Vaglrj.isHole c then (Vaglrj.bound b (c - Vaglrj.HOLE)).getD [] else [c]) ++ Vaglrj.filled p b := by
  unfold Vaglrj.filled
  rw [List.flatMap_cons]
theorem filled_spec (ok : GOk g) {b : Binding} : ∀ {p : List Nat} {l : List Sym}, Go g S l p [] → ROk l → (∀ k, (1000 + k) ∈ p → ∀ a, S k a → ∃ u, Vaglrj.bound b k = some u ∧ Go g NoHole [.non a] u []) → Go g NoHole l (Vaglrj.filled p b) [] := by
  intro p
  induction p with
  | nil => intro l h1 _ _; cases h1; exact .nil
  | cons c p ih =>
    intro l h1 hr hb
    rw [filled_cons]
    cases l with
    | nil => cases h1
    | cons s l =>
      have hr1 : ROk l := fun lo hi hm => hr lo hi (List.mem_cons_of_mem _ hm)
      have hb1 : ∀ k, (1000 + k) ∈ p → ∀ a, S k a → ∃ u, Vaglrj.bound b k = some u ∧ Go g NoHole [.non a] u [] := fun k hk => hb k (List.mem_cons_of_mem _ hk)
      cases s with
      | range lo hi =>
        have hlt := hr lo hi List.mem_cons_self
        cases h1 with
        | rng h3 h4 h5 =>
          rw [isHole_small (by omega), if_neg (by simp)]
          exact .rng h3 h4 (ih h5 hr1 hb1)
      | non a =>
        rcases h1.inv_non with ⟨k, ek, h3, h5⟩ | ⟨q, h3, h4, h5⟩
        · subst ek
          obtain ⟨u, hu, gu⟩ := hb k List.mem_cons_self a h3
          have e : (1000 + k) - Vaglrj.HOLE = k := by show 1000 + k - 1000 = k; omega
          rw [isHole_big (by omega), if_pos rfl, e, hu]
          exact Go.append (l := [.non a]) gu (ih h5 hr1 hb1)
        · rw [isHole_small (rule_small ok h3), if_neg (by simp)]
          exact .node h3 h4 (ih h5 (rok_rule ok h3 hr1) hb1)
end
end TR
set_option linter.all false
/-! Rewriting rules and steps: what the holder keeps in form. -/
namespace TR
open Vaglrc (Sym Rule Grammar)
open Vaglrj (Term Binding Rewrite Held State)

/-- a rewriting rule in form -/
structure RwOk (g : Grammar) (w : Rewrite) : Prop where
  ex : ∃ SL SR : Nat → Nat → Prop, (∀ k a a', SL k a → SL k a' → a = a') ∧ (∀ k a, SR k a → SL k a) ∧ TermOk g SL w.non w.left ∧ TermOk g SR w.non w.right ∧ ∀ k a, SR k a → (1000 + k) ∈ w.left
abbrev HeldOk (g : Grammar) (h : Held) : Prop := TermOk g NoHole h.non h.term
structure StOk (s : State) : Prop where
  g : GOk s.grammar
  rules : ∀ w ∈ s.rules, RwOk s.grammar w
  many : s.rules.length ≤ 16
  held : ∀ h, s.held = some h → HeldOk s.grammar h
  past : ∀ h ∈ s.past, HeldOk s.grammar h
  pmany : s.past.length ≤ 16

/-! ### places of nodes -/
theorem trues_append : ∀ {a b : List Bool} {i : Nat}, trues i (a ++ b) = trues i a ++ trues (i + a.length) b
  | [], b, i => by simp [trues]
  | true :: a, b, i => by
    show i :: trues (i + 1) (a ++ b) = i :: (trues (i + 1) a ++ _)
    rw [trues_append]; simp [Nat.add_comm, Nat.add_left_comm, Nat.add_assoc]
  | false :: a, b, i => by
    show trues (i + 1) (a ++ b) = trues (i + 1) a ++ _
    rw [trues_append]; simp [Nat.add_comm, Nat.add_left_comm, Nat.add_assoc]
theorem trues_at {bs : List Bool} {i : Nat} {b : Bool} (h : bs[i]? = some b) : trues i (bs.drop i) = if b = true then i :: trues (i + 1) (bs.drop (i + 1)) else trues (i + 1) (bs.drop (i + 1)) := by
  obtain ⟨hi, e⟩ := List.getElem?_eq_some_iff.mp h
  rw [List.drop_eq_getElem_cons hi, e]
  cases b <;> rfl
theorem trues_more {bs : List Bool} {i : Nat} {b : Bool} (h : bs[i]? = some b) : trues 0 (bs.take (i + 1)) = trues 0 (bs.take i) ++ if b = true then [i] else [] := by
  obtain ⟨hi, e⟩ := List.getElem?_eq_some_iff.mp h
  have : bs.take (i + 1) = bs.take i ++ [b] := by rw [List.take_succ, h]; rfl
  rw [this, trues_append]
  have hl : (bs.take i).length = i := by rw [List.length_take]; omega
  rw [hl, Nat.zero_add]
  cases b <;> rfl
theorem mem_trues : ∀ {bs : List Bool} {i j : Nat}, j ∈ trues i bs ↔ i ≤ j ∧ bs[j - i]? = some true
  | [], i, j => by simp [trues]
  | true :: bs, i, j => by
    show j ∈ i :: trues (i + 1) bs ↔ _
    rw [List.mem_cons, mem_trues]
    constructor
    · rintro (e | ⟨h1, h2⟩)
      · subst e; simp
      · have e : j - i = (j - (i + 1)) + 1 := by omega
        exact ⟨by omega, by rw [e]; simpa using h2⟩
    · rintro ⟨h1, h2⟩
      by_cases e : j = i
      · exact .inl e
      · have e : j - i = (j - (i + 1)) + 1 := by omega
        rw [e] at h2
        exact .inr ⟨by omega, by simpa using h2⟩
  | false :: bs, i, j => by
    show j ∈ trues (i + 1) bs ↔ _
    rw [mem_trues]
    constructor
    · rintro ⟨h1, h2⟩
      have e : j - i = (j - (i + 1)) + 1 := by omega
      exact ⟨by omega, by rw [e]; simpa using h2⟩
    · rintro ⟨h1, h2⟩
      by_cases e : j = i
      · subst e; simp at h2
      · have e : j - i = (j - (i + 1)) + 1 := by omega
        rw [e] at h2
        exact ⟨by omega, by simpa using h2⟩
section
variable {g : Grammar}
/-- the kinds of a term of a nonterminal -/
abbrev kindsT (g : Grammar) (a : Nat) (y : List Nat) : List Bool := kinds g [.non a] y
theorem nodesOf_eq (ok : GOk g) {a : Nat} {y : List Nat} (h : Go g NoHole [.non a] y []) : Vaglrj.nodesOf g a y = trues 0 (kindsT g a y) :=
  nodesFrom_eq ok h (by unfold Vaglrj.enough; omega)
theorem yieldOf_eq (ok : GOk g) {a : Nat} {y : List Nat} (h : Go g NoHole [.non a] y []) : Vaglrj.yieldOf g a y = bytesOf g [.non a] y :=
  yieldFrom_eq ok h (by unfold Vaglrj.enough; omega)
/-- a node: the stack there -/
theorem node_at (ok : GOk g) {a : Nat} {y : List Nat} (h : Go g NoHole [.non a] y []) {i : Nat} (hn : (kindsT g a y)[i]? = some true) : ∃ b l q c u v, Go g NoHole [.non a] (y.take i) (.non b :: l) ∧ y[i]? = some c ∧ g.rules[c]? = some q ∧ q.lhs = b ∧
    y.drop i = c :: u ++ v ∧ Go g NoHole q.rhs u [] ∧ Go g NoHole [.non b] (c :: u) [] ∧ Go g NoHole l v [] ∧ stopN g (kindsT g a y) y i = i + (c :: u).length := by
  have hi : i < y.length := by rw [← kinds_length h]; exact (List.getElem?_eq_some_iff.mp hn).1
  have hy : y = y.take i ++ y.drop i := (List.take_append_drop i y).symm
  have hl : (y.take i).length = i := by rw [List.length_take]; omega
  have h' := h
  rw [hy] at h'
  obtain ⟨l0, g1, g2⟩ := h'.cut
  have hne : y.drop i ≠ [] := by
    intro e
    have := congrArg List.length e
    rw [List.length_drop] at this; simp at this; omega
  cases l0 with
  | nil =>
    exfalso
    cases hd : y.drop i with
    | nil => exact hne hd
    | cons c r => rw [hd] at g2; cases g2
  | cons s l =>
    have hk := kinds_at g1 hne
    rw [← hy, hl] at hk
    rw [show (kinds g [Sym.non a] y)[i]? = some true from hn] at hk
    cases s with
    | range lo hi => simp [isNon] at hk
    | non b =>
      have g2' : Go g NoHole ([.non b] ++ l) (y.drop i) [] := g2
      obtain ⟨u, v, e, a1, a2⟩ := g2'.split
      cases u with
      | nil => exact absurd rfl a1.ne_nil
      | cons c u =>
        rcases a1.inv_non with ⟨_, _, hf, _⟩ | ⟨q, q1, q2, q3⟩
        · exact hf.elim
        · rw [List.append_nil] at q3
          refine ⟨b, l, q, c, u, v, g1, ?_, q1, q2, e, q3, a1, a2, ?_⟩
          · have : y[i]? = (y.drop i)[0]? := by rw [List.getElem?_drop]; simp
            rw [this, e]; rfl
          · have st := stop_eq ok (v := v) g1 a1
            rw [← e, ← hy, hl] at st
            exact st
/-- a place that is no node: a byte -/
theorem byte_at (ok : GOk g) {a : Nat} {y : List Nat} (h : Go g NoHole [.non a] y []) {i : Nat} (hn : (kindsT g a y)[i]? = some false) : stopN g (kindsT g a y) y i = i + 1 := by
  unfold stopN
  have : (kindsT g a y).getD i false = false := by unfold List.getD; rw [hn]; rfl
  rw [this, if_neg (by simp)]
/-- where the symbols beneath a node end, one behind another -/
theorem stops_row (ok : GOk g) {a : Nat} {y : List Nat} (h : Go g NoHole [.non a] y []) {i : Nat} {p u v : List Nat} {s : Sym} {l m : List Sym} (hy : y = p ++ (u ++ v)) (g1 : Go g NoHole [.non a] p (s :: l ++ m)) (g2 : Go g NoHole (s :: l) u []) :
    ∃ u1 u2, u = u1 ++ u2 ∧ u1 ≠ [] ∧ Go g NoHole [s] u1 [] ∧ Go g NoHole l u2 [] ∧ Go g NoHole [.non a] (p ++ u1) (l ++ m) ∧ stopN g (kindsT g a y) y p.length = p.length + u1.length := by
  have g2' : Go g NoHole ([s] ++ l) u [] := g2
  obtain ⟨u1, u2, e, a1, a2⟩ := g2'.split
  refine ⟨u1, u2, e, a1.ne_nil, a1, a2, ?_, ?_⟩
  · exact g1.trans ((a1.frame (l ++ m)))
  · subst hy
    rw [e, List.append_assoc]
    exact stop_eq ok g1 a1

/-! ### matching at a node, rewriting there -/
theorem matchAt_eq {w : Rewrite} {y : List Nat} {i c : Nat} {q : Rule} (h1 : y[i]? = some c) (h2 : g.rules[c]? = some q) : Vaglrj.matchAt g w y i = if q.lhs = w.non then Vaglrj.matchRow g w.left (y.drop i) [] else none := by
  unfold Vaglrj.matchAt
  rw [h1]
  simp only [lhsOf_eq h2]
  by_cases e : q.lhs = w.non
  · rw [if_pos (by simpa using e), if_pos e]
  · rw [if_neg (by simpa using e), if_neg e]
theorem hole_in {S : Nat → Nat → Prop} (ok : GOk g) : ∀ {p : List Nat} {l : List Sym}, Go g S l p [] → ROk l → ∀ n ∈ p, 1000 ≤ n → ∃ a, S (n - 1000) a := by
  intro p
  induction p with
  | nil => intro l _ _ n hn; simp at hn
  | cons c p ih =>
    intro l h1 hr n hn h1000
    cases l with
    | nil => cases h1
    | cons s l =>
      have hr1 : ROk l := fun lo hi hm => hr lo hi (List.mem_cons_of_mem _ hm)
      cases s with
      | range lo hi =>
        have hlt := hr lo hi List.mem_cons_self
        cases h1 with
        | rng h3 h4 h5 =>
          rcases List.mem_cons.mp hn with e | hn
          · omega
          · exact ih h5 hr1 n hn h1000
      | non a =>
        rcases h1.inv_non with ⟨k, ek, h3, h5⟩ | ⟨q, h3, h4, h5⟩
        · rcases List.mem_cons.mp hn with e | hn
          · have : n - 1000 = k := by omega
            rw [this]; exact ⟨a, h3⟩
          · exact ih h5 hr1 n hn h1000
        · have := rule_small ok h3
          rcases List.mem_cons.mp hn with e | hn
          · omega
          · exact ih h5 (rok_rule ok h3 hr1) n hn h1000
theorem rok_non (a : Nat) : ROk [.non a] := fun lo hi hm => by simp at hm
/-- a match at a node, and what comes of doing the rule there -/
theorem rewrite_spec (ok : GOk g) {a : Nat} {y : List Nat} (h : Go g NoHole [.non a] y []) {i : Nat} (hn : (kindsT g a y)[i]? = some true) {w : Rewrite} (hw : RwOk g w) {b : Binding} {r : List Nat} (hm : Vaglrj.matchAt g w y i = some (b, r)) :
    r = y.drop (stopN g (kindsT g a y) y i) ∧ (∀ n ∈ w.right, 1000 ≤ n → ∃ u, Vaglrj.bound b (n - 1000) = some u) ∧
    Vaglrj.rewriteAt g w y i = some (y.take i ++ (Vaglrj.filled w.right b ++ y.drop (stopN g (kindsT g a y) y i))) ∧
    Go g NoHole [.non a] (y.take i ++ (Vaglrj.filled w.right b ++ y.drop (stopN g (kindsT g a y) y i))) [] := by
  obtain ⟨n0, l, q, c, u, v, g1, e1, e2, e3, e4, g2, g3, g4, st⟩ := node_at ok h hn
  rw [matchAt_eq e1 e2] at hm
  by_cases el : q.lhs = w.non
  · rw [if_pos el] at hm
    obtain ⟨SL, SR, fn, sub, tl, tr, cov⟩ := hw.ex
    have en : n0 = w.non := e3.symm.trans el
    subst en
    have gd : Go g NoHole ([.non w.non] ++ l) (y.drop i) [] := by rw [e4]; exact Go.append (l := [.non w.non]) g3 g4
    obtain ⟨u', f1, f2, f3, f4, f5, f6⟩ := match_spec ok tl.go (rok_non _) gd (fun _ _ hm => by simp at hm) hm
    -- the part that was matched is the one that stands beneath
    have eu : u' = c :: u := by
      rw [e4] at f1
      have k1 : Vaglrj.subTerm g (c :: u ++ v) = some (c :: u, v) := subTerm_eq ok g3
      have k2 : Vaglrj.subTerm g (u' ++ r) = some (u', r) := subTerm_eq ok f2
      rw [f1, k2] at k1
      exact (Prod.mk.inj (Option.some.inj k1)).1
    have er : r = v := by
      rw [e4, eu] at f1
      exact (List.append_cancel_left f1).symm
    have hs : y.drop (stopN g (kindsT g a y) y i) = r := by
      rw [st, ← List.drop_drop, e4, List.drop_left, er]
    have hb : ∀ n ∈ w.right, 1000 ≤ n → ∃ u, Vaglrj.bound b (n - 1000) = some u := fun n hn hk => by
      obtain ⟨a', ha'⟩ := hole_in ok tr.go (rok_non _) n hn hk
      exact f6 _ (cov _ _ ha')
    have gf : Go g NoHole [.non w.non] (Vaglrj.filled w.right b) [] := filled_spec ok tr.go (rok_non _) fun k hk a' ha' => by
      obtain ⟨u0, hu0⟩ := f6 k (cov k a' ha')
      refine ⟨u0, hu0, ?_⟩
      obtain ⟨a2, hs2, hg2⟩ := f4 k u0 (bound_mem hu0)
      rw [fn k a' a2 (sub k a' ha') hs2]
      exact hg2
    refine ⟨hs.symm, hb, ?_, ?_⟩
    · unfold Vaglrj.rewriteAt
      rw [matchAt_eq e1 e2, if_pos el, hm, hs]
      rfl
    · rw [hs]
      exact g1.trans (Go.append (l := [.non w.non]) gf f3)
  · rw [if_neg el] at hm; cases hm
theorem rewriteAt_none {w : Rewrite} {y : List Nat} {i : Nat} (h : Vaglrj.matchAt g w y i = none) : Vaglrj.rewriteAt g w y i = none := by
  unfold Vaglrj.rewriteAt; rw [h]; rfl

/-! ### steps -/
theorem firstAt_nil {ws : List Rewrite} {y : Term} : Vaglrj.firstAt g ws y [] = none := rfl
theorem firstAt_none {ws : List Rewrite} {y : Term} {i : Nat} {l : List Nat} (h : ∀ w ∈ ws, Vaglrj.matchAt g w y i = none) : Vaglrj.firstAt g ws y (i :: l) = Vaglrj.firstAt g ws y l := by
  show (match ws.findIdx? (fun w => (Vaglrj.matchAt g w y i).isSome) with | some r => some (r, i) | none => Vaglrj.firstAt g ws y l) = _
  have : ws.findIdx? (fun w => (Vaglrj.matchAt g w y i).isSome) = none := by
    rw [List.findIdx?_eq_none_iff]
    intro w hw
    rw [h w hw]; rfl
  rw [this]
theorem firstAt_some {ws : List Rewrite} {y : Term} {i r : Nat} {l : List Nat} {w : Rewrite} (hr : ws[r]? = some w) (hm : (Vaglrj.matchAt g w y i).isSome = true) (hno : ∀ j w', j < r → ws[j]? = some w' → Vaglrj.matchAt g w' y i = none) :
    Vaglrj.firstAt g ws y (i :: l) = some (r, i) := by
  show (match ws.findIdx? (fun w => (Vaglrj.matchAt g w y i).isSome) with | some r => some (r, i) | none => Vaglrj.firstAt g ws y l) = _
  obtain ⟨h1, h2⟩ := List.getElem?_eq_some_iff.mp hr
  have : ws.findIdx? (fun w => (Vaglrj.matchAt g w y i).isSome) = some r := by
    rw [List.findIdx?_eq_some_iff_getElem]
    refine ⟨h1, by rw [h2]; exact hm, fun j hj => ?_⟩
    rw [hno j ws[j] hj (by rw [List.getElem?_eq_getElem])]
    simp
  rw [this]
theorem stepOf_none {a : Nat} {ws : List Rewrite} {y : Term} (h : Vaglrj.firstAt g ws y (Vaglrj.nodesOf g a y) = none) : Vaglrj.stepOf g a ws y = none := by
  unfold Vaglrj.stepOf; rw [h]
theorem stepOf_some {a : Nat} {ws : List Rewrite} {y z : Term} {r i : Nat} {w : Rewrite} (h : Vaglrj.firstAt g ws y (Vaglrj.nodesOf g a y) = some (r, i)) (hr : ws[r]? = some w) (hz : Vaglrj.rewriteAt g w y i = some z) : Vaglrj.stepOf g a ws y = some (r, i, z) := by
  unfold Vaglrj.stepOf; rw [h]; simp only [hr, hz]; rfl
theorem firstAt_inv {ws : List Rewrite} {y : Term} {r i : Nat} : ∀ {l : List Nat}, Vaglrj.firstAt g ws y l = some (r, i) → i ∈ l ∧ ∃ w, ws[r]? = some w ∧ (Vaglrj.matchAt g w y i).isSome = true
  | [], h => by cases h
  | j :: l, h => by
    have h' : (match ws.findIdx? (fun w => (Vaglrj.matchAt g w y j).isSome) with | some r => some (r, j) | none => Vaglrj.firstAt g ws y l) = some (r, i) := h
    cases e : ws.findIdx? (fun w => (Vaglrj.matchAt g w y j).isSome) with
    | none =>
      rw [e] at h'
      obtain ⟨h1, h2⟩ := firstAt_inv h'
      exact ⟨List.mem_cons_of_mem _ h1, h2⟩
    | some r' =>
      rw [e] at h'
      cases h'
      obtain ⟨k1, k2, _⟩ := List.findIdx?_eq_some_iff_getElem.mp e
      exact ⟨List.mem_cons_self, ws[r], by rw [List.getElem?_eq_getElem], k2⟩
/-- a step keeps a term of the nonterminal -/
theorem stepOf_ok (ok : GOk g) {a : Nat} {ws : List Rewrite} (hws : ∀ w ∈ ws, RwOk g w) {y z : Term} {r i : Nat} (h : Go g NoHole [.non a] y []) (hs : Vaglrj.stepOf g a ws y = some (r, i, z)) : Go g NoHole [.non a] z [] := by
  unfold Vaglrj.stepOf at hs
  cases e : Vaglrj.firstAt g ws y (Vaglrj.nodesOf g a y) with
  | none => rw [e] at hs; cases hs
  | some p =>
    obtain ⟨r', i'⟩ := p
    rw [e] at hs
    obtain ⟨h1, w, h2, h3⟩ := firstAt_inv e
    simp only [h2] at hs
    rw [nodesOf_eq ok h] at h1
    have hn := (mem_trues.mp h1).2
    rw [Nat.sub_zero] at hn
    obtain ⟨⟨b, rr⟩, hb⟩ := Option.isSome_iff_exists.mp h3
    obtain ⟨_, _, k3, k4⟩ := rewrite_spec ok h hn (hws w (List.mem_of_getElem? h2)) hb
    rw [k3] at hs
    have : (r', i', _) = (r, i, z) := Option.some.inj hs
    cases this
    exact k4
end

/-! ### one hole's number for two nonterminals -/
theorem clash_iff {l : List Nat} (hd : l.Nodup) : Vaglrj.clash l = true ↔ ¬ (l.map fun c => (Vaglrj.holeOf c).1).Nodup := by
  constructor
  · intro h hn
    unfold Vaglrj.clash at h
    simp only [List.any_eq_true, Bool.and_eq_true, beq_iff_eq, Bool.not_eq_true', beq_eq_false_iff_ne] at h
    obtain ⟨c, hc, d, hd', e, ne⟩ := h
    obtain ⟨i, hi, ei⟩ := List.mem_iff_getElem.mp hc
    obtain ⟨j, hj, ej⟩ := List.mem_iff_getElem.mp hd'
    have hij : i = j := by
      have e2 : (l.map fun c => (Vaglrj.holeOf c).1)[i]'(by simpa using hi) = (l.map fun c => (Vaglrj.holeOf c).1)[j]'(by simpa using hj) := by
        rw [List.getElem_map, List.getElem_map, ei, ej]; exact e
      exact (List.getElem_inj hn).mp e2
    subst hij
    exact ne (ei.symm.trans ej)
  · intro hn
    apply Classical.byContradiction
    intro hc
    apply hn
    refine List.Pairwise.map _ (fun a b (hab : a ∈ l ∧ b ∈ l ∧ a ≠ b) e => ?_) (hd.imp_of_mem fun ha hb h => ⟨ha, hb, h⟩)
    apply hc
    unfold Vaglrj.clash
    simp only [List.any_eq_true, Bool.and_eq_true, beq_iff_eq, Bool.not_eq_true', beq_eq_false_iff_ne]
    exact ⟨a, hab.1, b, hab.2.1, e, hab.2.2⟩
/-- a rewriting rule that is taken is in form -/
theorem rw_ok {g : Grammar} {a : Nat} {x y p q : List Nat} (tp : TermOk g (inText x) a p) (tq : TermOk g (inText y) a q) (cov : ∀ s ∈ x, 256 ≤ s → (1000 + (Vaglrj.holeOf s).1) ∈ p)
    (hc : Vaglrj.clash (Vaglrj.holeSigns x) = false) (hin : (Vaglrj.holeSigns y).any (fun c => !(Vaglrc.has c (Vaglrj.holeSigns x))) = false) : RwOk g { non := a, left := p, right := q } := by
  have sub : ∀ k b, inText y k b → inText x k b := by
    rintro k b ⟨h32, hm⟩
    refine ⟨h32, ?_⟩
    have h1 : 256 + 32 * k + b ∈ Vaglrj.holeSigns y := mem_holeSigns.mpr ⟨hm, by omega⟩
    have h2 := List.any_eq_false.mp hin _ h1
    simp only [Bool.not_eq_true', Bool.not_eq_false'] at h2
    have h3 : Vaglrc.has (256 + 32 * k + b) (Vaglrj.holeSigns x) = true := by simpa using h2
    exact (mem_holeSigns.mp (has_iff.mp h3)).1
  refine ⟨inText x, inText y, ?_, sub, tp, tq, ?_⟩
  · rintro k b b' ⟨h1, h2⟩ ⟨h3, h4⟩
    have m1 : 256 + 32 * k + b ∈ Vaglrj.holeSigns x := mem_holeSigns.mpr ⟨h2, by omega⟩
    have m2 : 256 + 32 * k + b' ∈ Vaglrj.holeSigns x := mem_holeSigns.mpr ⟨h4, by omega⟩
    apply Classical.byContradiction
    intro hne
    have : Vaglrj.clash (Vaglrj.holeSigns x) = true := by
      unfold Vaglrj.clash
      simp only [List.any_eq_true, Bool.and_eq_true, beq_iff_eq, Bool.not_eq_true', beq_eq_false_iff_ne]
      refine ⟨_, m1, _, m2, ?_, by omega⟩
      show (256 + 32 * k + b - 256) / 32 = (256 + 32 * k + b' - 256) / 32
      omega
    rw [hc] at this; cases this
  · rintro k b hb
    obtain ⟨h1, h2⟩ := sub k b hb
    have := cov _ h2 (by omega)
    have e : (Vaglrj.holeOf (256 + 32 * k + b)).1 = k := by
      show (256 + 32 * k + b - 256) / 32 = k
      omega
    rwa [e] at this
end TR
set_option linter.all false
/-! Grammar rows; the holder's states; a list of calls. -/
namespace TR
open Vaglrc (Sym Rule Grammar)
open Vaglrj (Term Binding Rewrite Held State)

/-! ### grammar rows, symbol by symbol -/
def symTake (n : Nat) : List Nat → Option (Sym × Nat)
  | 0 :: a :: _ => if a < n then some (.non a, 2) else none
  | 1 :: lo :: hi :: _ => if lo ≤ hi ∧ hi < 256 then some (.range lo hi, 3) else none
  | _ => none
theorem readSyms_zero {n : Nat} {xs : List Nat} : Vaglrc.readSyms n 0 xs = some ([], xs) := by
  unfold Vaglrc.readSyms; rfl
theorem readSyms_succ {n k : Nat} {xs : List Nat} : Vaglrc.readSyms n (k + 1) xs = match symTake n xs with
    | none => none
    | some (s, c) => (Vaglrc.readSyms n k (xs.drop c)).map fun y => (s :: y.1, y.2) := by
  match xs with
  | [] => rfl
  | [0] => rfl
  | [1] => rfl
  | [_ + 2] => rfl
  | [1, _] => rfl
  | 0 :: a :: r =>
    show (if a < n then (Vaglrc.readSyms n k r).map (fun y => (Sym.non a :: y.1, y.2)) else none) = match (if a < n then some (Sym.non a, 2) else none) with
      | none => none
      | some (s, c) => (Vaglrc.readSyms n k ((0 :: a :: r).drop c)).map fun y => (s :: y.1, y.2)
    by_cases h : a < n
    · rw [if_pos h, if_pos h]; rfl
    · rw [if_neg h, if_neg h]
  | 1 :: lo :: hi :: r =>
    show (if lo ≤ hi then (if hi < 256 then (Vaglrc.readSyms n k r).map (fun y => (Sym.range lo hi :: y.1, y.2)) else none) else none) = match (if lo ≤ hi ∧ hi < 256 then some (Sym.range lo hi, 3) else none) with
      | none => none
      | some (s, c) => (Vaglrc.readSyms n k ((1 :: lo :: hi :: r).drop c)).map fun y => (s :: y.1, y.2)
    by_cases h1 : lo ≤ hi
    · by_cases h2 : hi < 256
      · rw [if_pos h1, if_pos h2, if_pos ⟨h1, h2⟩]; rfl
      · rw [if_pos h1, if_neg h2, if_neg fun q => h2 q.2]
    · rw [if_neg h1, if_neg fun q => h1 q.1]
  | (_ + 2) :: _ :: _ => rfl
def ruleTake (n : Nat) (xs : List Nat) : Option (Rule × List Nat) := match xs with
  | a :: m :: r => if a < n ∧ m ≤ 8 then (Vaglrc.readSyms n m r).map fun y => ({ lhs := a, rhs := y.1 }, y.2) else none
  | _ => none
theorem readRules_zero {n : Nat} {xs : List Nat} : Vaglrc.readRules n 0 xs = some ([], xs) := by
  unfold Vaglrc.readRules; rfl
theorem readRules_succ {n k : Nat} {xs : List Nat} : Vaglrc.readRules n (k + 1) xs = match ruleTake n xs with
    | none => none
    | some (q, r) => (Vaglrc.readRules n k r).map fun z => (q :: z.1, z.2) := by
  match xs with
  | [] => rfl
  | [_] => rfl
  | a :: m :: r =>
    show (if a < n then (if m ≤ 8 then (match Vaglrc.readSyms n m r with
      | some y => (Vaglrc.readRules n k y.2).map (fun z => ({ lhs := a, rhs := y.1 } :: z.1, z.2))
      | none => none) else none) else none) = match (if a < n ∧ m ≤ 8 then (Vaglrc.readSyms n m r).map fun y => (({ lhs := a, rhs := y.1 } : Rule), y.2) else none) with
      | none => none
      | some (q, r) => (Vaglrc.readRules n k r).map fun z => (q :: z.1, z.2)
    by_cases h1 : a < n
    · by_cases h2 : m ≤ 8
      · rw [if_pos h1, if_pos h2, if_pos ⟨h1, h2⟩]
        cases Vaglrc.readSyms n m r <;> rfl
      · rw [if_pos h1, if_neg h2, if_neg fun q => h2 q.2]
    · rw [if_neg h1, if_neg fun q => h1 q.1]
/-- a symbol in form -/
def SOk (n : Nat) : Sym → Prop
  | .non a => a < n
  | .range lo hi => lo ≤ hi ∧ hi < 256
theorem symTake_ok {n : Nat} {xs : List Nat} {s : Sym} {c : Nat} (h : symTake n xs = some (s, c)) : SOk n s ∧ 2 ≤ c ∧ c ≤ xs.length := by
  match xs, h with
  | 0 :: a :: r, h =>
    have h' : (if a < n then some (Sym.non a, 2) else none) = some (s, c) := h
    by_cases hc : a < n
    · rw [if_pos hc] at h'; cases h'
      exact ⟨hc, by omega, by simp⟩
    · rw [if_neg hc] at h'; cases h'
  | 1 :: lo :: hi :: r, h =>
    have h' : (if lo ≤ hi ∧ hi < 256 then some (Sym.range lo hi, 3) else none) = some (s, c) := h
    by_cases hc : lo ≤ hi ∧ hi < 256
    · rw [if_pos hc] at h'; cases h'
      exact ⟨hc, by omega, by simp⟩
    · rw [if_neg hc] at h'; cases h'
  | [], h => cases h
  | [0], h => cases h
  | [1], h => cases h
  | [_ + 2], h => cases h
  | [1, _], h => cases h
  | (_ + 2) :: _ :: _, h => cases h
theorem readSyms_ok {n : Nat} : ∀ {k : Nat} {xs r : List Nat} {l : List Sym}, Vaglrc.readSyms n k xs = some (l, r) → l.length = k ∧ (∀ s ∈ l, SOk n s) ∧ ∃ c, r = xs.drop c ∧ c ≤ xs.length
  | 0, xs, r, l, h => by
    rw [readSyms_zero] at h; cases h
    exact ⟨rfl, fun s hs => by simp at hs, 0, rfl, Nat.zero_le _⟩
  | k + 1, xs, r, l, h => by
    rw [readSyms_succ] at h
    cases e : symTake n xs with
    | none => rw [e] at h; cases h
    | some p =>
      obtain ⟨s, c⟩ := p
      rw [e] at h
      obtain ⟨y, hy, ey⟩ := Option.map_eq_some_iff.mp h
      obtain ⟨l', r'⟩ := y
      cases ey
      obtain ⟨i1, i2, c', i3, i4⟩ := readSyms_ok hy
      obtain ⟨o1, _, o3⟩ := symTake_ok e
      refine ⟨by simp [i1], fun s' hs' => ?_, c + c', by rw [i3, List.drop_drop], ?_⟩
      · rcases List.mem_cons.mp hs' with e | hs'
        · rw [e]; exact o1
        · exact i2 s' hs'
      · rw [List.length_drop] at i4; omega
structure RuleOk (n : Nat) (q : Rule) : Prop where
  lhs : q.lhs < n
  len : q.rhs.length ≤ 8
  syms : ∀ s ∈ q.rhs, SOk n s
theorem ruleTake_ok {n : Nat} {xs r : List Nat} {q : Rule} (h : ruleTake n xs = some (q, r)) : RuleOk n q ∧ ∃ c, r = xs.drop c ∧ 2 ≤ c ∧ c ≤ xs.length := by
  match xs, h with
  | a :: m :: t, h =>
    have h' : (if a < n ∧ m ≤ 8 then (Vaglrc.readSyms n m t).map fun y => (({ lhs := a, rhs := y.1 } : Rule), y.2) else none) = some (q, r) := h
    by_cases hc : a < n ∧ m ≤ 8
    · rw [if_pos hc] at h'
      obtain ⟨y, hy, ey⟩ := Option.map_eq_some_iff.mp h'
      obtain ⟨l', r'⟩ := y
      cases ey
      obtain ⟨i1, i2, c, i3, i4⟩ := readSyms_ok hy
      exact ⟨⟨hc.1, by rw [i1]; exact hc.2, i2⟩, c + 2, by rw [i3]; simp, by omega, by simp; omega⟩
    · rw [if_neg hc] at h'; cases h'
  | [], h => cases h
  | [_], h => cases h
theorem readRules_ok {n : Nat} : ∀ {k : Nat} {xs r : List Nat} {l : List Rule}, Vaglrc.readRules n k xs = some (l, r) → l.length = k ∧ ∀ q ∈ l, RuleOk n q
  | 0, xs, r, l, h => by
    rw [readRules_zero] at h; cases h
    exact ⟨rfl, fun s hs => by simp at hs⟩
  | k + 1, xs, r, l, h => by
    rw [readRules_succ] at h
    cases e : ruleTake n xs with
    | none => rw [e] at h; cases h
    | some p =>
      obtain ⟨q, r1⟩ := p
      rw [e] at h
      obtain ⟨y, hy, ey⟩ := Option.map_eq_some_iff.mp h
      obtain ⟨l', r'⟩ := y
      cases ey
      obtain ⟨i1, i2⟩ := readRules_ok hy
      refine ⟨by simp [i1], fun q' hq' => ?_⟩
      rcases List.mem_cons.mp hq' with e' | hq'
      · rw [e']; exact (ruleTake_ok e).1
      · exact i2 q' hq'
/-- a grammar row, as it is read -/
theorem readGrammar_eq {xs : List Nat} : Vaglrc.readGrammar xs = match xs with
    | n :: m :: r => if 1 ≤ n ∧ n ≤ 20 ∧ m ≤ 60 then (match Vaglrc.readRules n m r with
      | some (l, []) => some { nons := n, rules := l }
      | _ => none) else none
    | _ => none := by
  match xs with
  | [] => rfl
  | [_] => rfl
  | n :: m :: r =>
    unfold Vaglrc.readGrammar
    dsimp only
    by_cases h1 : 1 ≤ n
    · by_cases h2 : n ≤ 20
      · by_cases h3 : m ≤ 60
        · rw [if_pos h1, if_pos (show n ≤ Vaglrc.NONS from h2), if_pos (show m ≤ Vaglrc.RULES from h3), if_pos ⟨h1, h2, h3⟩]
          cases Vaglrc.readRules n m r with
          | none => rfl
          | some p =>
            obtain ⟨l, t⟩ := p
            cases t <;> rfl
        · rw [if_pos h1, if_pos (show n ≤ Vaglrc.NONS from h2), if_neg (show ¬ m ≤ Vaglrc.RULES from h3), if_neg fun q => h3 q.2.2]
      · rw [if_pos h1, if_neg (show ¬ n ≤ Vaglrc.NONS from h2), if_neg fun q => h2 q.2.1]
    · rw [if_neg h1, if_neg fun q => h1 q.1]
theorem readGrammar_ok {xs : List Nat} {g : Grammar} (h : Vaglrc.readGrammar xs = some g) : GOk g := by
  rw [readGrammar_eq] at h
  match xs, h with
  | n :: m :: r, h =>
    have h' : (if 1 ≤ n ∧ n ≤ 20 ∧ m ≤ 60 then (match Vaglrc.readRules n m r with
      | some (l, []) => some ({ nons := n, rules := l } : Grammar)
      | _ => none) else none) = some g := h
    by_cases hc : 1 ≤ n ∧ n ≤ 20 ∧ m ≤ 60
    · rw [if_pos hc] at h'
      cases e : Vaglrc.readRules n m r with
      | none => rw [e] at h'; cases h'
      | some p =>
        obtain ⟨l, t⟩ := p
        rw [e] at h'
        cases t with
        | cons _ _ => cases h'
        | nil =>
          cases h'
          obtain ⟨i1, i2⟩ := readRules_ok e
          exact ⟨hc.2.1, hc.1, by show l.length ≤ 60; omega, fun q hq => (i2 q hq).lhs, fun q hq => (i2 q hq).len, fun q hq b hb => (i2 q hq).syms _ hb, fun q hq lo hi hb => (i2 q hq).syms _ hb⟩
    · rw [if_neg hc] at h'; cases h'
  | [], h => cases h
  | [_], h => cases h

/-! ### the holder's states stay in form -/
theorem start_ok : StOk Vaglrj.start where
  g := ⟨by decide, by decide, by decide, fun r hr => by simp [Vaglrj.start] at hr, fun r hr => by simp [Vaglrj.start] at hr, fun r hr => by simp [Vaglrj.start] at hr, fun r hr => by simp [Vaglrj.start] at hr⟩
  rules := fun w hw => by simp [Vaglrj.start] at hw
  many := by simp [Vaglrj.start]
  held := fun h hh => by simp [Vaglrj.start] at hh
  past := fun h hh => by simp [Vaglrj.start] at hh
  pmany := by simp [Vaglrj.start]
theorem hold_ok {s : State} (ok : StOk s) {h : Held} (hh : HeldOk s.grammar h) : StOk (Vaglrj.hold s h) where
  g := ok.g
  rules := ok.rules
  many := ok.many
  held := fun h' e => by
    have e' : h = h' := Option.some.inj e
    rw [← e']; exact hh
  past := fun h' hm => by
    have hm' : h' ∈ (match s.held with | some o => (o :: s.past).take Vaglrj.PAST | none => s.past) := hm
    cases e : s.held with
    | none => rw [e] at hm'; exact ok.past h' hm'
    | some o =>
      rw [e] at hm'
      rcases List.mem_cons.mp (List.mem_of_mem_take hm') with e2 | h2
      · rw [e2]; exact ok.held o e
      · exact ok.past h' h2
  pmany := by
    show (match s.held with | some o => (o :: s.past).take Vaglrj.PAST | none => s.past).length ≤ 16
    cases s.held with
    | none => exact ok.pmany
    | some o =>
      show ((o :: s.past).take 16).length ≤ 16
      rw [List.length_take]; omega
theorem pok_bytes {g : Grammar} {x : List Nat} (h : ∀ c ∈ x, c < 256) : POk g x := fun c hc => .inl (h c hc)
/-- what a text or a pattern says: the four ends -/
theorem saidBy_cases (g : Grammar) (ok : GOk g) {x : List Nat} (px : POk g x) (a : Nat) :
    (x.length ∉ Vaglrc.ends (tt g x) a 0 ∧ Vaglrj.saidBy g a x = .uncovered) ∨
    (x.length ∈ Vaglrc.ends (tt g x) a 0 ∧ Endless (hh g x) x (tt g x) (a, 0, x.length) ∧ Vaglrj.saidBy g a x = .endless) ∨
    (x.length ∈ Vaglrc.ends (tt g x) a 0 ∧ ¬ Endless (hh g x) x (tt g x) (a, 0, x.length) ∧ 400 < (firstTerm g x a).length ∧ Vaglrj.saidBy g a x = .great) ∨
    (x.length ∈ Vaglrc.ends (tt g x) a 0 ∧ ¬ Endless (hh g x) x (tt g x) (a, 0, x.length) ∧ ¬ 400 < (firstTerm g x a).length ∧ Vaglrj.saidBy g a x = .term (firstTerm g x a) ∧
      TermOk g (inText x) a (firstTerm g x a) ∧ ∀ s ∈ x, 256 ≤ s → (1000 + (Vaglrj.holeOf s).1) ∈ firstTerm g x a) := by
  by_cases h1 : x.length ∈ Vaglrc.ends (tt g x) a 0
  · by_cases h2 : Endless (hh g x) x (tt g x) (a, 0, x.length)
    · exact .inr (.inl ⟨h1, h2, said_endless ok px h1 h2⟩)
    · obtain ⟨k1, k2⟩ := said_fin ok px h1 h2
      by_cases h3 : 400 < (firstTerm g x a).length
      · exact .inr (.inr (.inl ⟨h1, h2, h3, k1 h3⟩))
      · obtain ⟨q1, q2, q3⟩ := k2 h3
        exact .inr (.inr (.inr ⟨h1, h2, h3, q1, q2, q3⟩))
  · exact .inl ⟨h1, said_uncovered h1⟩
theorem noHole_of {g : Grammar} {x : List Nat} (h : ∀ c ∈ x, c < 256) {a : Nat} {z : List Nat} (t : TermOk g (inText x) a z) : TermOk g NoHole a z :=
  ⟨t.go.mono fun k b hb => by have := h _ hb.2; omega, t.len⟩
theorem saidBy_term {g : Grammar} (ok : GOk g) {x : List Nat} (px : POk g x) {a : Nat} {z : Term} (h : Vaglrj.saidBy g a x = .term z) : TermOk g (inText x) a z ∧ ∀ s ∈ x, 256 ≤ s → (1000 + (Vaglrj.holeOf s).1) ∈ z := by
  rcases saidBy_cases g ok px a with ⟨_, e⟩ | ⟨_, _, e⟩ | ⟨_, _, _, e⟩ | ⟨_, _, _, e, t, c⟩
  · rw [e] at h; cases h
  · rw [e] at h; cases h
  · rw [e] at h; cases h
  · rw [e] at h; cases h
    exact ⟨t, c⟩

/-! ### calls -/
theorem whole_eq (c : List (List Int)) : PyVaglrj.whole c = c := by
  unfold PyVaglrj.whole
  split <;> rfl
theorem calls_eq (l : List Int) : PyVaglrj.calls l = PyFlat.calls PyVaglrj.shape l.length l := by
  unfold PyVaglrj.calls
  cases PyFlat.calls PyVaglrj.shape l.length l with
  | none => rfl
  | some cs =>
    show some (cs.map PyVaglrj.whole) = some cs
    rw [show cs.map PyVaglrj.whole = cs.map id from List.map_congr_left fun c _ => whole_eq c, List.map_id]
def shapeN (p : Int) : Nat := if p = 1 ∨ p = 2 ∨ p = 7 ∨ p = 11 then 1 else if p = 8 ∨ p = 10 then 2 else 0
end TR
set_option Elab.async false
namespace TR
open Vaglrc (Sym Rule Grammar)
/-! The table of ends, filled from behind: one row is exact once it is sound and closed. -/
def symF (x : List Nat) (f : Nat → Nat → List Nat) : Sym → Nat → List Nat
  | .non k, i => f i k
  | .range lo hi, i => Vaglrc.symEnds x [] (.range lo hi) i
def PathF (x : List Nat) (f : Nat → Nat → List Nat) : List Sym → Nat → Nat → Prop
  | [], i, j => i = j
  | s :: l, i, j => ∃ k ∈ symF x f s i, k ≤ x.length ∧ PathF x f l k j
theorem symF_range {x : List Nat} {f : Nat → Nat → List Nat} {lo hi i : Nat} (t : Vaglrc.Spans) : symF x f (.range lo hi) i = Vaglrc.symEnds x t (.range lo hi) i := rfl
/-- the exact table, from place k on -/
def tbl (t : Vaglrc.Spans) (k : Nat) (i a : Nat) : List Nat := if k ≤ i then Vaglrc.ends t a i else []
theorem pathF_sound {x : List Nat} {f : Nat → Nat → List Nat} {t : Vaglrc.Spans} (h : ∀ i a, ∀ j ∈ f i a, j ∈ Vaglrc.ends t a i) : ∀ {l : List Sym} {i j : Nat}, PathF x f l i j → Path x t l i j
  | [], _, _, e => e
  | s :: l, i, j, ⟨k, hk, _, p⟩ => by
    refine ⟨k, ?_, pathF_sound h p⟩
    cases s with
    | non a => exact h i a k hk
    | range lo hi => exact hk
/-- what a rule covers, by a sound table -/
theorem rule_sound {g : Grammar} {x : List Nat} {r : Rule} (wf : WfG g) (hr : r ∈ g.rules) {i j : Nat} (hi : i ≤ x.length) (p : Path x (Vaglrc.spansOf g x) r.rhs i j) : j ∈ Vaglrc.ends (Vaglrc.spansOf g x) r.lhs i := by
  have := mem_round (g := g) (x := x) (t := Vaglrc.spansOf g x) (a := r.lhs) (i := i) (j := j)
  rw [spans_fix.2] at this
  exact this.mpr ⟨wf.lhs r hr, hi, .inr ⟨r, hr, rfl, p⟩⟩
theorem cov_pathF {g : Grammar} {x : List Nat} {f : Nat → Nat → List Nat} {i0 : Nat} (wf : WfG g)
    (late : ∀ i a, i0 < i → i ≤ x.length → a < g.nons → f i a = Vaglrc.ends (Vaglrc.spansOf g x) a i)
    (closed : ∀ r ∈ g.rules, ∀ j, PathF x f r.rhs i0 j → j ∈ f i0 r.lhs) : ∀ {l : List Sym} {i j : Nat}, Cov g.rules x l i j → i0 ≤ i → i ≤ x.length → (∀ b, Sym.non b ∈ l → b < g.nons) → PathF x f l i j := by
  intro l i j c
  induction c with
  | nil => intro _ _ _; rfl
  | @rng lo hi b i j l hx h1 h2 c ih =>
    intro h0 hi' hb
    have hlt := (List.getElem?_eq_some_iff.mp hx).1
    refine ⟨i + 1, ?_, by omega, ih (by omega) (by omega) fun b hb' => hb b (List.mem_cons_of_mem _ hb')⟩
    show i + 1 ∈ (match x[i]? with | some b => if lo ≤ b then (if b ≤ hi then [i + 1] else []) else [] | none => [])
    rw [hx]; simp [h1, h2]
  | @non a i k j r l hr ha c1 c2 ih1 ih2 =>
    intro h0 hi' hb
    have hk := (c1.le).2 hi'
    have hk1 := (c1.le).1
    have p1 := ih1 h0 hi' (wf.rhs r hr)
    have p2 := ih2 (by omega) hk fun b hb' => hb b (List.mem_cons_of_mem _ hb')
    refine ⟨k, ?_, hk, p2⟩
    show k ∈ f i a
    by_cases e : i = i0
    · subst e
      rw [← ha]
      exact closed r hr k p1
    · rw [late i a (by omega) hi' (hb a List.mem_cons_self)]
      exact (mem_ends wf hi').mpr ⟨r, hr, ha, c1⟩
theorem row_exact {g : Grammar} {x : List Nat} {f : Nat → Nat → List Nat} {i0 : Nat} (wf : WfG g) (h0 : i0 ≤ x.length)
    (late : ∀ i a, i0 < i → i ≤ x.length → a < g.nons → f i a = Vaglrc.ends (Vaglrc.spansOf g x) a i)
    (sound : ∀ a, ∀ j ∈ f i0 a, j ∈ Vaglrc.ends (Vaglrc.spansOf g x) a i0) (up : ∀ a, Up (f i0 a))
    (closed : ∀ r ∈ g.rules, ∀ j, PathF x f r.rhs i0 j → j ∈ f i0 r.lhs) (a : Nat) : f i0 a = Vaglrc.ends (Vaglrc.spansOf g x) a i0 := by
  refine up_ext (up a) (spans_good.up a i0) fun j => ⟨sound a j, fun hj => ?_⟩
  obtain ⟨r, hr, ha, c⟩ := (mem_ends wf h0).mp hj
  rw [← ha]
  exact closed r hr j (cov_pathF wf late closed c (Nat.le_refl _) h0 (wf.rhs r hr))
end TR
set_option linter.all false
/-! The holder's states stay in form, call by call. -/
namespace TR
open Vaglrc (Sym Rule Grammar)
open Vaglrj (Term Binding Rewrite Held State)
theorem run_go {g : Grammar} (ok : GOk g) {a : Nat} {ws : List Rewrite} (hws : ∀ w ∈ ws, RwOk g w) : ∀ {k n : Nat} {y : Term}, HeldOk g ⟨a, y⟩ → HeldOk g ⟨a, (Vaglrj.runOf g a ws k n y).2.2⟩
  | 0, n, y, h => by
    show HeldOk g ⟨a, (if (Vaglrj.stepOf g a ws y).isSome then (1, n, y) else (0, n, y)).2.2⟩
    cases (Vaglrj.stepOf g a ws y).isSome <;> exact h
  | k + 1, n, y, h => by
    show HeldOk g ⟨a, (match Vaglrj.stepOf g a ws y with
      | none => (0, n, y)
      | some (_, _, z) => if Vaglrj.SIZE < z.length then (2, n, y) else Vaglrj.runOf g a ws k (n + 1) z).2.2⟩
    cases e : Vaglrj.stepOf g a ws y with
    | none => exact h
    | some p =>
      obtain ⟨r, i, z⟩ := p
      show HeldOk g ⟨a, (if Vaglrj.SIZE < z.length then (2, n, y) else Vaglrj.runOf g a ws k (n + 1) z).2.2⟩
      by_cases hz : Vaglrj.SIZE < z.length
      · rw [if_pos hz]; exact h
      · rw [if_neg hz]
        exact run_go ok hws ⟨stepOf_ok ok hws h.go e, by have : ¬ 400 < z.length := hz; show z.length ≤ 400; omega⟩
theorem pattern_term {s : State} (ok : StOk s) {a : Int} {x : List Int} {p : Term} (h : Vaglrj.pattern s a x = .ok p) : TermOk s.grammar (inText (Vaglrj.toNats x)) a.toNat p ∧ ∀ c ∈ Vaglrj.toNats x, 256 ≤ c → (1000 + (Vaglrj.holeOf c).1) ∈ p := by
  unfold Vaglrj.pattern at h
  by_cases h1 : (x.any fun n => decide (n < 0)) = true
  · rw [if_pos h1] at h; cases h
  rw [if_neg h1] at h
  by_cases h2 : Vaglrj.TEXT < x.length
  · rw [if_pos h2] at h; cases h
  rw [if_neg h2] at h
  by_cases h3 : Vaglrj.badNon s a = true
  · rw [if_pos h3] at h; cases h
  rw [if_neg h3] at h
  cases h4 : Vaglrj.isPattern s.grammar (Vaglrj.toNats x) with
  | false => rw [h4] at h; cases h
  | true =>
    rw [h4] at h
    have px : POk s.grammar (Vaglrj.toNats x) := fun c hc => by
      have := List.all_eq_true.mp h4 c hc
      simp only [Bool.or_eq_true, Bool.and_eq_true, decide_eq_true_eq] at this
      exact this
    have h' : (match Vaglrj.saidBy s.grammar a.toNat (Vaglrj.toNats x) with
      | .uncovered => Except.error (-7)
      | .endless => .error (-10)
      | .great => .error (-12)
      | .term y => .ok y) = Except.ok (ε := Int) p := h
    cases e : Vaglrj.saidBy s.grammar a.toNat (Vaglrj.toNats x) with
    | uncovered => rw [e] at h'; cases h'
    | endless => rw [e] at h'; cases h'
    | great => rw [e] at h'; cases h'
    | term y =>
      rw [e] at h'
      cases h'
      exact saidBy_term ok.g px e
theorem made_ok {s : State} (ok : StOk s) {h : Held} {z : Term} {l : Vaglrj.Answer} (hz : Go s.grammar NoHole [.non h.non] z []) : StOk (Vaglrj.made s h z l).1 := by
  unfold Vaglrj.made
  by_cases h1 : Vaglrj.SIZE < z.length
  · rw [if_pos h1]; exact ok
  · rw [if_neg h1]
    exact hold_ok ok ⟨hz, by have : ¬ 400 < z.length := h1; show z.length ≤ 400; omega⟩
theorem onHeld_ok {s : State} (ok : StOk s) {f : Held → State × Vaglrj.Answer} (hf : ∀ h, s.held = some h → StOk (f h).1) : StOk (Vaglrj.onHeld s f).1 := by
  unfold Vaglrj.onHeld
  cases e : s.held with
  | none => exact ok
  | some h => exact hf h e
theorem onRule_ok {s : State} (ok : StOk s) {r : Int} {f : Rewrite → State × Vaglrj.Answer} (hf : ∀ w ∈ s.rules, StOk (f w).1) : StOk (Vaglrj.onRule s r f).1 := by
  unfold Vaglrj.onRule
  by_cases h1 : r < 0
  · rw [if_pos h1]; exact ok
  rw [if_neg h1]
  cases e : s.rules[r.toNat]? with
  | none => exact ok
  | some w => exact hf w (List.mem_of_getElem? e)
theorem step_ok {s : State} (ok : StOk s) (c : Vaglrj.Call) : StOk (Vaglrj.step s c).1 := by
  cases c with
  | load x =>
    show StOk (Vaglrj.loading s x).1
    unfold Vaglrj.loading
    by_cases h1 : (x.any fun n => decide (n < 0)) = true
    · rw [if_pos h1]; exact ok
    rw [if_neg h1]
    cases e : Vaglrc.readGrammar (Vaglrj.toNats x) with
    | none => exact ok
    | some g =>
      have o := start_ok
      exact ⟨readGrammar_ok e, fun w hw => by simp [Vaglrj.start] at hw, o.many, fun h hh => by simp [Vaglrj.start] at hh, fun h hh => by simp [Vaglrj.start] at hh, o.pmany⟩
  | text a x =>
    show StOk (Vaglrj.texting s a x).1
    unfold Vaglrj.texting
    by_cases h1 : (x.any fun n => decide (n < 0) || decide (255 < n)) = true
    · rw [if_pos h1]; exact ok
    rw [if_neg h1]
    by_cases h2 : Vaglrj.TEXT < x.length
    · rw [if_pos h2]; exact ok
    rw [if_neg h2]
    by_cases h3 : Vaglrj.badNon s a = true
    · rw [if_pos h3]; exact ok
    rw [if_neg h3]
    have hb : ∀ c ∈ Vaglrj.toNats x, c < 256 := by
      intro c hc
      obtain ⟨n, hn, rfl⟩ := List.mem_map.mp hc
      have := List.any_eq_false.mp (Bool.not_eq_true _ ▸ h1) n hn
      simp only [Bool.or_eq_true, decide_eq_true_eq, not_or] at this
      omega
    cases e : Vaglrj.saidBy s.grammar a.toNat (Vaglrj.toNats x) with
    | uncovered => exact ok
    | endless => exact ok
    | great => exact ok
    | term y => exact hold_ok ok (noHole_of hb (saidBy_term ok.g (pok_bytes hb) e).1)
  | rule a x y =>
    show StOk (Vaglrj.ruling s a x y).1
    unfold Vaglrj.ruling
    cases ex : Vaglrj.pattern s a x with
    | error n => exact ok
    | ok p =>
    cases ey : Vaglrj.pattern s a y with
    | error n => exact ok
    | ok q =>
    dsimp only
    by_cases h1 : Vaglrj.isBare p = true
    · rw [if_pos h1]; exact ok
    rw [if_neg h1]
    by_cases h2 : Vaglrj.clash (Vaglrj.holesIn x) = true
    · rw [if_pos h2]; exact ok
    rw [if_neg h2]
    by_cases h3 : (Vaglrj.holesIn y).any (fun c => !(Vaglrc.has c (Vaglrj.holesIn x))) = true
    · rw [if_pos h3]; exact ok
    rw [if_neg h3]
    by_cases h4 : Vaglrj.RULES ≤ s.rules.length
    · rw [if_pos h4]; exact ok
    rw [if_neg h4]
    obtain ⟨tp, cov⟩ := pattern_term ok ex
    obtain ⟨tq, _⟩ := pattern_term ok ey
    refine ⟨ok.g, fun w hw => ?_, ?_, ok.held, ok.past, ok.pmany⟩
    · rcases List.mem_append.mp hw with h | h
      · exact ok.rules w h
      · rw [List.mem_singleton.mp h]
        exact rw_ok tp tq cov (Bool.not_eq_true _ ▸ h2) (Bool.not_eq_true _ ▸ h3)
    · show (s.rules ++ [_]).length ≤ 16
      have : ¬ 16 ≤ s.rules.length := h4
      rw [List.length_append, List.length_singleton]; omega
  | drop =>
    show StOk (if s.rules.isEmpty then (s, [-15]) else ({ s with rules := s.rules.dropLast }, [0, ((s.rules.length - 1 : Nat) : Int)])).1
    cases s.rules.isEmpty with
    | true => exact ok
    | false =>
      refine ⟨ok.g, fun w hw => ok.rules w (List.dropLast_subset _ hw), ?_, ok.held, ok.past, ok.pmany⟩
      show s.rules.dropLast.length ≤ 16
      rw [List.length_dropLast]; have := ok.many; omega
  | rules => exact ok
  | term => exact onHeld_ok ok fun _ _ => ok
  | shown => exact onHeld_ok ok fun _ _ => ok
  | places r => exact onHeld_ok ok fun _ _ => onRule_ok ok fun _ _ => ok
  | binds r i => exact ok
  | step =>
    refine onHeld_ok ok fun h hh => ?_
    cases e : Vaglrj.stepOf s.grammar h.non s.rules h.term with
    | none => exact ok
    | some p =>
      obtain ⟨r, i, z⟩ := p
      exact made_ok ok (stepOf_ok ok.g ok.rules (ok.held h hh).go e)
  | at_ r i =>
    refine onHeld_ok ok fun h hh => onRule_ok ok fun w hw => ?_
    by_cases h1 : i < 0
    · rw [if_pos h1]; exact ok
    rw [if_neg h1]
    cases h2 : Vaglrc.has i.toNat (Vaglrj.nodesOf s.grammar h.non h.term) with
    | false => exact ok
    | true =>
      have hm : i.toNat ∈ Vaglrj.nodesOf s.grammar h.non h.term := by
        unfold Vaglrc.has at h2
        obtain ⟨y, hy, e⟩ := List.any_eq_true.mp h2
        have : y = i.toNat := by simpa using e
        rw [← this]; exact hy
      rw [nodesOf_eq ok.g (ok.held h hh).go] at hm
      have hn := (mem_trues.mp hm).2
      rw [Nat.sub_zero] at hn
      cases e : Vaglrj.rewriteAt s.grammar w h.term i.toNat with
      | none => exact ok
      | some z =>
        show StOk (Vaglrj.made s h z _).1
        refine made_ok ok ?_
        cases em : Vaglrj.matchAt s.grammar w h.term i.toNat with
        | none => rw [rewriteAt_none em] at e; cases e
        | some m =>
          obtain ⟨b, rr⟩ := m
          obtain ⟨_, _, k3, k4⟩ := rewrite_spec ok.g (ok.held h hh).go hn (ok.rules w hw) em
          rw [k3] at e
          cases e
          exact k4
  | run n =>
    refine onHeld_ok ok fun h hh => ?_
    by_cases h1 : n < 0
    · rw [if_pos h1]; exact ok
    rw [if_neg h1]
    by_cases h2 : Vaglrj.STEPS < n
    · rw [if_pos h2]; exact ok
    rw [if_neg h2]
    dsimp only
    cases ((Vaglrj.runOf s.grammar h.non s.rules n.toNat 0 h.term).2.1 == 0) with
    | true => exact ok
    | false => exact hold_ok ok (run_go ok.g ok.rules (ok.held h hh))
  | back =>
    show StOk (match s.past with
    | [] => (s, [-11])
    | h :: l => ({ s with held := some h, past := l }, [0, (h.term.length : Int)])).1
    cases e : s.past with
    | nil => exact ok
    | cons h l =>
      refine ⟨ok.g, ok.rules, ok.many, fun h' e' => ?_, fun h' hm => ok.past h' (by rw [e]; exact List.mem_cons_of_mem _ hm), ?_⟩
      · cases e'; exact ok.past h (by rw [e]; exact List.mem_cons_self)
      · have := ok.pmany
        rw [e] at this
        show l.length ≤ 16
        simp at this; omega
  | faithful =>
    refine onHeld_ok ok fun h hh => ?_
    by_cases h1 : Vaglrj.TEXT < (Vaglrj.yieldOf s.grammar h.non h.term).length
    · rw [if_pos h1]; exact ok
    · rw [if_neg h1]; exact ok
end TR
set_option Elab.async false
set_option linter.all false
set_option maxRecDepth 100000
set_option maxHeartbeats 4000000
/-! The walk's ground: what lies in the heap, promises, short rules. -/
namespace TW
open PySem PySem.Spec PyProof.Rows L2
open Vaglrc (Sym Rule Grammar)

/-! ### the text -/
def topS (i : Nat) : Stmt := PySem.Challenge.pw_treerulesdesk_s01_answers.main.body.getD i (.Pass ⟨0, 0, 0, 0⟩)

/-- the value that the i-th statement of a body assigns; a comprehension's own scope -/
def stValue (b : List Stmt) (i : Nat) : Expr := match b.getD i (.Pass ⟨0, 0, 0, 0⟩) with
  | .Assign _ v _ => v
  | _ => .Constant .none 0 ⟨0, 0, 0, 0⟩
def lcScope : Expr → Scope
  | .ListComp _ _ sc _ => sc
  | _ => { kind := .function, names := [], isGenerator := false, isCoroutine := false }
theorem one_line : 1 ≤ sizeLine := by decide
theorem nil_line : 0 ≤ sizeLine := by decide
theorem two_line : 2 ≤ sizeLine := by decide
theorem three_line : 3 ≤ sizeLine := by decide
theorem four_line : 4 ≤ sizeLine := by decide
/-! ### heaps that grow -/
abbrev Ex (H H' : Hp) : Prop := Same H H'
theorem Ex.refl (H : Hp) : Ex H H := fun _ _ h => h
theorem Ex.new {H : Hp} {p : Addr} {o : HO} (h : H p = none) : Ex H (upd H p o) := fun a u e => by
  rw [upd_ne (ne_of_none e h)]
  exact e
/-- an object that H does not know may change -/
theorem Ex.mut {H H' : Hp} {p : Addr} {o : HO} (e : Ex H H') (h : H p = none) : Ex H (upd H' p o) := fun a u ha => by
  rw [upd_ne (ne_of_none ha h)]
  exact e a u ha
theorem Ex.back {H H' : Hp} {p : Addr} (e : Ex H H') (h : H' p = none) : H p = none := e.free h
theorem Ex.tr {H H1 H2 : Hp} (a : Ex H H1) (b : Ex H1 H2) : Ex H H2 := Same.trans a b
/-- H without what stands at r -/
def del (H : Hp) (r : Addr) : Hp := fun b => if b = r then none else H b
theorem del_same {H : Hp} {r : Addr} : del H r r = none := if_pos rfl
theorem del_ne {H : Hp} {r b : Addr} (h : b ≠ r) : del H r b = H b := if_neg h
theorem del_ex {H : Hp} {r : Addr} : Ex (del H r) H := fun b o e => by
  by_cases h : b = r
  · subst h; rw [del_same] at e; cases e
  · rwa [del_ne h] at e
theorem del_upd {H : Hp} {r : Addr} {o : HO} : Ex (del H r) (upd H r o) := fun b u e => by
  by_cases h : b = r
  · subst h; rw [del_same] at e; cases e
  · rw [upd_ne h]; rwa [del_ne h] at e
theorem del_mono {H H' : Hp} {r : Addr} (e : Ex H H') : Ex (del H r) (del H' r) := fun b u q => by
  by_cases h : b = r
  · subst h; rw [del_same] at q; cases q
  · rw [del_ne h] at q ⊢; exact e b u q

/-! ### a promise's end -/
/-- any value with P, over a heap that has grown -/
def Ret (H : Hp) (Q : VK) (P : V → Hp → Prop) : Prop := ∀ v H', Ex H H' → P v H' → Q v H'

/-! ### data in the heap -/
def vN (n : Nat) : V := .int (n : Int)
def NatsV (H : Hp) (v : V) (ns : List Nat) : Prop := ∃ l, v = .ref l ∧ H l = some (.lst (ns.map vN))
def IntsV (H : Hp) (v : V) (ns : List Int) : Prop := ∃ l, v = .ref l ∧ H l = some (.lst (ns.map V.int))
def BoolsV (H : Hp) (v : V) (bs : List Bool) : Prop := ∃ l, v = .ref l ∧ H l = some (.lst (bs.map V.bl))
theorem NatsV.mono {H H' : Hp} {v : V} {ns : List Nat} (e : Ex H H') (h : NatsV H v ns) : NatsV H' v ns := by
  obtain ⟨l, q, p⟩ := h; exact ⟨l, q, e _ _ p⟩
theorem IntsV.mono {H H' : Hp} {v : V} {ns : List Int} (e : Ex H H') (h : IntsV H v ns) : IntsV H' v ns := by
  obtain ⟨l, q, p⟩ := h; exact ⟨l, q, e _ _ p⟩
theorem BoolsV.mono {H H' : Hp} {v : V} {ns : List Bool} (e : Ex H H') (h : BoolsV H v ns) : BoolsV H' v ns := by
  obtain ⟨l, q, p⟩ := h; exact ⟨l, q, e _ _ p⟩
def symT : Sym → Int × Int × Int
  | .non a => (0, a, a)
  | .range lo hi => (1, lo, hi)
def SymV (H : Hp) (v : V) (s : Sym) : Prop := ∃ a, v = .ref a ∧ H a = some (.tup [.int (symT s).1, .int (symT s).2.1, .int (symT s).2.2])
theorem SymV.mono {H H' : Hp} {v : V} {s : Sym} (e : Ex H H') (h : SymV H v s) : SymV H' v s := by
  obtain ⟨l, q, p⟩ := h; exact ⟨l, q, e _ _ p⟩
/-- a list of things -/
def ListV {α : Type} (P : Hp → V → α → Prop) (H : Hp) (v : V) (xs : List α) : Prop := ∃ l vs, v = .ref l ∧ H l = some (.lst vs) ∧ Paired (P H) vs xs
theorem Paired.mono2 {α β : Type} {F G : α → β → Prop} {l₁ : List α} {l₂ : List β} (h : Paired F l₁ l₂) (f : ∀ a b, F a b → G a b) : Paired G l₁ l₂ := L2.Paired.mapP h f
theorem ListV.mono {α : Type} {P : Hp → V → α → Prop} (hP : ∀ H H' v x, Ex H H' → P H v x → P H' v x) {H H' : Hp} {v : V} {xs : List α} (e : Ex H H') (h : ListV P H v xs) : ListV P H' v xs := by
  obtain ⟨l, vs, q, p, r⟩ := h
  exact ⟨l, vs, q, e _ _ p, Paired.mono2 r fun a b => hP H H' a b e⟩
theorem Paired.len {α β : Type} {F : α → β → Prop} {l₁ : List α} {l₂ : List β} (h : Paired F l₁ l₂) : l₁.length = l₂.length := by
  induction h with
  | nil => rfl
  | cons _ _ ih => simp [ih]
theorem Paired.at {α β : Type} {F : α → β → Prop} {l₁ : List α} {l₂ : List β} (h : Paired F l₁ l₂) : ∀ {i : Nat} {b : β}, l₂[i]? = some b → ∃ a, l₁[i]? = some a ∧ F a b := by
  induction h with
  | nil => intro i b e; simp at e
  | cons r _ ih =>
    intro i b e
    cases i with
    | zero => simp at e; subst e; exact ⟨_, rfl, r⟩
    | succ i => simp at e; obtain ⟨a, h1, h2⟩ := ih e; exact ⟨a, by simpa using h1, h2⟩
theorem Paired.at' {α β : Type} {F : α → β → Prop} {l₁ : List α} {l₂ : List β} (h : Paired F l₁ l₂) : ∀ {i : Nat} {a : α}, l₁[i]? = some a → ∃ b, l₂[i]? = some b ∧ F a b := by
  induction h with
  | nil => intro i b e; simp at e
  | cons r _ ih =>
    intro i b e
    cases i with
    | zero => simp at e; subst e; exact ⟨_, rfl, r⟩
    | succ i => simp at e; obtain ⟨a, h1, h2⟩ := ih e; exact ⟨a, by simpa using h1, h2⟩
theorem Paired.app {α β : Type} {F : α → β → Prop} {l₁ m₁ : List α} {l₂ m₂ : List β} (h : Paired F l₁ l₂) (k : Paired F m₁ m₂) : Paired F (l₁ ++ m₁) (l₂ ++ m₂) := by
  induction h with
  | nil => exact k
  | cons r _ ih => exact .cons r ih
theorem Paired.snoc {α β : Type} {F : α → β → Prop} {l₁ : List α} {l₂ : List β} {a : α} {b : β} (h : Paired F l₁ l₂) (r : F a b) : Paired F (l₁ ++ [a]) (l₂ ++ [b]) := Paired.app h (.cons r .nil)
/-- the symbols of a rule -/
abbrev SymsV : Hp → V → List Sym → Prop := ListV SymV
/-- a rule, with the hole that it is added for -/
def RuleV (H : Hp) (v : V) (r : Rule × Int) : Prop := ∃ a b, v = .ref a ∧ H a = some (.tup [vN r.1.lhs, b, .int r.2]) ∧ SymsV H b r.1.rhs
theorem RuleV.mono {H H' : Hp} {v : V} {r : Rule × Int} (e : Ex H H') (h : RuleV H v r) : RuleV H' v r := by
  obtain ⟨a, b, q, p, s⟩ := h
  exact ⟨a, b, q, e _ _ p, ListV.mono (P := SymV) (fun _ _ _ _ => SymV.mono) e s⟩
abbrev RulesV : Hp → V → List (Rule × Int) → Prop := ListV RuleV
theorem SymsV.mono {H H' : Hp} {v : V} {s : List Sym} (e : Ex H H') (h : SymsV H v s) : SymsV H' v s := ListV.mono (P := SymV) (fun _ _ _ _ => SymV.mono) e h
theorem RulesV.mono {H H' : Hp} {v : V} {s : List (Rule × Int)} (e : Ex H H') (h : RulesV H v s) : RulesV H' v s := ListV.mono (P := RuleV) (fun _ _ _ _ => RuleV.mono) e h
/-- of a place: for each nonterminal below m the ends -/
def RowV (H : Hp) (v : V) (m : Nat) (f : Nat → List Nat) : Prop := ListV NatsV H v ((List.range m).map f)
/-- .. of all places up to n -/
def EndsV (H : Hp) (v : V) (n m : Nat) (f : Nat → Nat → List Nat) : Prop := ListV (fun H v i => RowV H v m (f i)) H v (List.range (n + 1))
theorem RowV.mono {H H' : Hp} {v : V} {m : Nat} {f : Nat → List Nat} (e : Ex H H') (h : RowV H v m f) : RowV H' v m f := ListV.mono (P := NatsV) (fun _ _ _ _ => NatsV.mono) e h
theorem EndsV.mono {H H' : Hp} {v : V} {n m : Nat} {f : Nat → Nat → List Nat} (e : Ex H H') (h : EndsV H v n m f) : EndsV H' v n m f := ListV.mono (P := fun H v i => RowV H v m (f i)) (fun _ _ _ _ e q => RowV.mono e q) e h
theorem range_get {n i : Nat} (h : i < n) : (List.range n)[i]? = some i := by
  rw [List.getElem?_eq_getElem (by simpa using h)]; simp
theorem map_vN_get {ns : List Nat} {i n : Nat} (h : ns[i]? = some n) : (ns.map vN)[i]? = some (vN n) := by rw [List.getElem?_map, h]; rfl
theorem map_int_get {ns : List Int} {i : Nat} {n : Int} (h : ns[i]? = some n) : (ns.map V.int)[i]? = some (.int n) := by rw [List.getElem?_map, h]; rfl
theorem map_bl_get {ns : List Bool} {i : Nat} {n : Bool} (h : ns[i]? = some n) : (ns.map V.bl)[i]? = some (.bl n) := by rw [List.getElem?_map, h]; rfl
theorem vN_cast (ns : List Nat) : ns.map vN = (ns.map fun (n : Nat) => (n : Int)).map V.int := by rw [List.map_map]; rfl
theorem get_map_vN {ns : List Nat} {i : Nat} {v : V} (h : (ns.map vN)[i]? = some v) : ∃ n, ns[i]? = some n ∧ v = vN n := by
  rw [List.getElem?_map] at h
  obtain ⟨n, h1, h2⟩ := Option.map_eq_some_iff.mp h
  exact ⟨n, h1, h2.symm⟩
theorem flat_vN (ns : List Nat) : (ns.map vN).all flatV = true := by
  rw [List.all_map]
  exact List.all_eq_true.mpr fun _ _ => rfl
theorem inV_vN (n : Nat) (ns : List Nat) : inV (vN n) (ns.map vN) = decide (n ∈ ns) := by
  unfold inV
  rw [List.any_map]
  induction ns with
  | nil => simp
  | cons m ns ih =>
    rw [List.any_cons, ih]
    have e : (((fun y => eqV y (vN n)) ∘ vN) m) = decide (n = m) := by
      show eqV (.int (m : Int)) (.int (n : Int)) = _
      show (((m : Int) == (n : Int)) : Bool) = _
      by_cases h : n = m
      · subst h; simp
      · have : ¬ (m : Int) = (n : Int) := by omega
        simp [h, this]
    rw [e]
    by_cases h : n = m <;> simp [h]
theorem small {n : Nat} (h : n ≤ 1000000) : n ≤ sizeLine := Nat.le_trans h (by decide)
theorem small_lt {n : Nat} (h : n ≤ 1000000) : n < sizeLine := Nat.lt_of_le_of_lt h (by decide)

/-! ### rules: a def of the module, a constant of the module -/
/-- a def of the module, by its name, that keeps its promise -/
structure FnC (P : Program) (w : World) (K : PySem.W.Frag) (mg : Str → Option Value) (base : Heap) (CX : CXT) (k : Nat) (x : Str) (ps : List Str) (sp : Sp) : Prop where
  ex : ∃ (f : Addr) (fd : FuncData), mg x = some (.ref f) ∧ PySem.W.keepIn K (.ref f) = true ∧ Binds K fd ps [] ∧ FnOk P w K mg base CX k f fd ps sp
section
variable {X : Cx}
theorem pe_fc {CX : CXT} {k : Nat} {x : Str} {ps : List Str} {sp : Sp} {E : XK} {p pos : Pos} {e : Expr} {es : List Expr} {t : TA} (C : FnC X.prog X.w X.K X.mg X.base CX k x ps sp) (hr : Room k X.A) (hx : Passes CX X E) (ha : PA X (e :: es) t) (hg : Gl X x := by rfl)
    (hdb : (x == ("__debug__" : Str)) = false := by decide) (hst : starEach (e :: es) X.env = (false, eval e X.env) :: starEach es X.env := by rfl) (hpl : (backTo pos (starEach es X.env)).any (·.1) = false := by rfl) :
    PE X (.Call (.Name x p) (e :: es) [] pos) (tCall sp [] E t) := by
  obtain ⟨f, fd, hm, hk, hb, F⟩ := C.ex
  exact pe_call F hr hg hm hk hb .nil hx ha hdb hst hpl
theorem pe_gi {x : Str} {i : Int} {pos : Pos} (h : ∃ t, X.mg x = some (.int i t)) (hg : Gl X x := by rfl) (hd : (x == ("__debug__" : Str)) = false := by decide) : PE X (.Name x pos) (tC (.int i)) := by
  obtain ⟨t, h⟩ := h
  exact pe_glob hg h ⟨t, rfl⟩ hd
end
/-- what the module's names hold: the built-in ones nothing, the constants a number -/
structure Glob (mg : Str → Option Value) : Prop where
  any : mg "any" = none
  all : mg "all" = none
  enumerate : mg "enumerate" = none
  int : mg "int" = none
  len : mg "len" = none
  min : mg "min" = none
  range : mg "range" = none
  reversed : mg "reversed" = none
  set : mg "set" = none
  sorted : mg "sorted" = none
  sum : mg "sum" = none
  zip : mg "zip" = none
  NONTERMINAL : ∃ t, mg "NONTERMINAL" = some (.int 0 t)
  RANGE : ∃ t, mg "RANGE" = some (.int 1 t)
  NO_HOLE : ∃ t, mg "NO_HOLE" = some (.int (-1) t)
  MOST_NONTERMINALS : ∃ t, mg "MOST_NONTERMINALS" = some (.int 20 t)
  MOST_RULES : ∃ t, mg "MOST_RULES" = some (.int 60 t)
  MOST_SYMBOLS : ∃ t, mg "MOST_SYMBOLS" = some (.int 8 t)
  MOST_BYTE : ∃ t, mg "MOST_BYTE" = some (.int 255 t)
  MOST_TERM : ∃ t, mg "MOST_TERM" = some (.int 400 t)
  FIRST_HOLE : ∃ t, mg "FIRST_HOLE" = some (.int 1000 t)
  MOST_SIGNS : ∃ t, mg "MOST_SIGNS" = some (.int 24 t)
  FIRST_SIGN : ∃ t, mg "FIRST_SIGN" = some (.int 256 t)
  HOLE_STEP : ∃ t, mg "HOLE_STEP" = some (.int 32 t)
  MOST_HOLE : ∃ t, mg "MOST_HOLE" = some (.int 9 t)
  MOST_REWRITINGS : ∃ t, mg "MOST_REWRITINGS" = some (.int 16 t)
  MOST_BEFORE : ∃ t, mg "MOST_BEFORE" = some (.int 16 t)
  MOST_STEPS : ∃ t, mg "MOST_STEPS" = some (.int 100 t)
abbrev rLenK (K : PySem.W.Frag) : List V → Hp → VK → Prop := fun xs H Q => ∃ p ys, xs = [.ref p] ∧ (SqL K H p ys ∨ SqT K H p ys) ∧ Q (.int ys.length) H
/-- an int that is a natural number is told by its number -/
theorem int_le {a b : Nat} : decide ((a : Int) ≤ (b : Int)) = decide (a ≤ b) := by rw [decide_eq_decide]; exact Int.ofNat_le
theorem int_lt {a b : Nat} : decide ((a : Int) < (b : Int)) = decide (a < b) := by rw [decide_eq_decide]; exact Int.ofNat_lt
theorem int_eq {a b : Nat} : decide (V.int (a : Int) = V.int (b : Int)) = decide (a = b) := by
  rw [decide_eq_decide]
  exact ⟨fun h => Int.ofNat_inj.mp (V.int.inj h), fun h => by rw [h]⟩
/-! ### comprehensions over a list whose turns make nothing that stays -/
def EvB (t : TT) (σ : L2.St) (H : Hp) (b : Bool) : Prop := ∀ R : Bool → Hp → Prop, (∀ H2, Ex H H2 → R b H2) → t σ H R
def EvV (t : TE) (σ : L2.St) (H : Hp) (v : V) : Prop := ∀ R : VK, (∀ H2, Ex H H2 → R v H2) → t σ H R
theorem evb_yes {σ : L2.St} {H : Hp} : EvB tYes σ H true := fun _ h => h H (Ex.refl H)
theorem lcA {α : Type} {K : PySem.W.Frag} {a : Addr} {ys : List α} {g : α → V} {b : α → Bool} {c : α → V} {j : Nat} {tt : TT} {te : TE} {vs : List Nat} {σ : L2.St} {H1 : Hp} {D : Addr} {Qd : Hp → Prop} (hD : H1 D = none) (hl : H1 a = some (.lst (ys.map g))) (hz : ys.length ≤ 1000000)
    (hw : ∀ x, wipe ((wipe σ vs).set j (some x)) vs = wipe σ vs)
    (ht : ∀ y ∈ ys, ∀ H', Ex H1 H' → EvB tt ((wipe σ vs).set j (some (g y))) H' (b y))
    (he : ∀ y ∈ ys, ∀ H', Ex H1 H' → b y = true → EvV te ((wipe σ vs).set j (some (g y))) H' (c y))
    (hQ : ∀ H', Ex H1 H' → H' D = some (.lst ((ys.filter b).map c)) → Qd H') :
    ∃ W : Nat → Nat → Hp → Prop, (∃ m, W 0 m (upd H1 D (.lst []))) ∧ ∀ i m H, W i m H →
      ((Itl K a).stop i H ∧ Qd H) ∨ ((Itl K a).go i H ∧ ∃ Nx : Hp → Prop, (∀ H', Nx H' → ∃ m', m' < m ∧ W (i + 1) m' H') ∧ ∀ x H', (Itl K a).yld i H x H' → gName j x (wipe σ vs) H' fun σ2 H2 => wipe σ2 vs = wipe σ vs ∧ tt σ2 H2 fun b H3 =>
        if b = true then te σ2 H3 fun y H4 => ∃ acc, H4 D = some (.lst acc) ∧ acc.length < sizeLine ∧ Nx (upd H4 D (.lst (acc ++ [y]))) else Nx H3) := by
  refine lc_list (K := K) (a := a) (xs := ys.map g) (fun i H' => Ex H1 H' ∧ H' D = some (.lst (((ys.take i).filter b).map c))) ⟨Ex.new hD, upd_same⟩ (fun i H' _ p => SqL.of (p.1 _ _ hl)) ?_ ?_
  · rintro i v H2 hi ⟨e2, hD2⟩
    rw [List.getElem?_map] at hi
    obtain ⟨y, hy, rfl⟩ := Option.map_eq_some_iff.mp hi
    have hm := List.mem_of_getElem? hy
    have htk : ys.take (i + 1) = ys.take i ++ [y] := by rw [List.take_succ, hy]; rfl
    refine ⟨hw _, ht y hm H2 e2 _ fun H3 e3 => ?_⟩
    cases hb : b y with
    | true =>
      refine iteT ?_
      refine he y hm H3 (e2.tr e3) hb _ fun H4 e4 => ⟨_, e4 _ _ (e3 _ _ hD2), ?_, ((e2.tr e3).tr e4).mut hD, ?_⟩
      · refine small_lt ?_
        rw [List.length_map]
        have h1 := List.length_filter_le b (ys.take i)
        rw [List.length_take] at h1
        omega
      · rw [upd_same, htk, List.filter_append, List.map_append, List.filter_cons, if_pos hb]; rfl
    | false =>
      refine iteF ?_
      refine ⟨e2.tr e3, ?_⟩
      rw [e3 _ _ hD2, htk, List.filter_append, List.filter_cons, if_neg (by rw [hb]; exact Bool.false_ne_true)]
      simp
  · rintro H2 ⟨e2, hD2⟩
    rw [List.length_map, List.take_length] at hD2
    exact hQ H2 e2 hD2
theorem filter_true {α : Type} (l : List α) : l.filter (fun _ => true) = l := List.filter_eq_self.mpr fun _ _ => rfl
end TW
set_option Elab.async false
set_option linter.all false
set_option maxRecDepth 100000
set_option maxHeartbeats 4000000
/-! Sets of small ints: one laid by another's members, the two together (set | set). -/
namespace SU
open PySem PySem.Spec PyProof.Rows L2

/-! ### the way through a table, pure of what a hash brings -/
def st (m i : Nat) : Nat := (i * 5 + 1) % (m + 1)
def itn (m : Nat) : Nat → Nat → Nat
  | 0, i => i
  | s + 1, i => itn m s (st m i)
def M5 (m : Nat) : Prop := m = 7 ∨ m = 15 ∨ m = 31 ∨ m = 63 ∨ m = 127
theorem itn_add (m : Nat) : ∀ (a b i : Nat), itn m (a + b) i = itn m b (itn m a i)
  | 0, b, i => by rw [Nat.zero_add]; rfl
  | a + 1, b, i => by
    rw [Nat.add_right_comm]
    show itn m (a + b) (st m i) = itn m b (itn m a (st m i))
    exact itn_add m a b (st m i)
def orbit (m : Nat) : Nat → Nat → List Nat
  | 0, _ => []
  | k + 1, i => i :: orbit m k (st m i)
theorem orbit_at (m : Nat) : ∀ (k s i : Nat), s < k → (orbit m k i)[s]? = some (itn m s i)
  | 0, s, i, h => by omega
  | k + 1, 0, i, _ => rfl
  | k + 1, s + 1, i, h => by
    show (orbit m k (st m i))[s]? = _
    rw [orbit_at m k s (st m i) (by omega)]; rfl
theorem orbit_len (m : Nat) : ∀ (k i : Nat), (orbit m k i).length = k
  | 0, _ => rfl
  | k + 1, i => by show (orbit m k (st m i)).length + 1 = _; rw [orbit_len]
def allIn (m : Nat) : Bool := (List.range (m + 1)).all (fun j => (orbit m (m + 1) 0).contains j) && itn m (m + 1) 0 == 0
theorem all7 : allIn 7 = true := by decide +kernel
theorem all15 : allIn 15 = true := by decide +kernel
theorem all31 : allIn 31 = true := by decide +kernel
theorem all63 : allIn 63 = true := by decide +kernel
theorem all127 : allIn 127 = true := by decide +kernel
theorem all5 {m : Nat} (h : M5 m) : allIn m = true := by
  rcases h with rfl | rfl | rfl | rfl | rfl
  · exact all7
  · exact all15
  · exact all31
  · exact all63
  · exact all127
theorem from0 {m : Nat} (h : M5 m) {j : Nat} (hj : j ≤ m) : ∃ s, s ≤ m ∧ itn m s 0 = j := by
  have a := all5 h
  unfold allIn at a
  rw [Bool.and_eq_true] at a
  have b := List.all_eq_true.mp a.1 j (by simpa using Nat.lt_succ_of_le hj)
  have c : j ∈ orbit m (m + 1) 0 := by simpa using b
  obtain ⟨s, hs, e⟩ := List.mem_iff_getElem.mp c
  rw [orbit_len] at hs
  refine ⟨s, by omega, ?_⟩
  have := orbit_at m (m + 1) s 0 hs
  rw [List.getElem?_eq_getElem (by rw [orbit_len]; exact hs)] at this
  rw [← Option.some.inj this, e]
theorem round0 {m : Nat} (h : M5 m) : itn m (m + 1) 0 = 0 := by
  have a := all5 h
  unfold allIn at a
  rw [Bool.and_eq_true] at a
  simpa using a.2
theorem meets {m : Nat} (h : M5 m) {i j : Nat} (hi : i ≤ m) (hj : j ≤ m) : ∃ s, s ≤ m ∧ itn m s i = j := by
  obtain ⟨a, ha, ea⟩ := from0 h hi
  obtain ⟨b, hb, eb⟩ := from0 h hj
  by_cases hab : a ≤ b
  · refine ⟨b - a, by omega, ?_⟩
    rw [← ea, ← itn_add, show a + (b - a) = b by omega, eb]
  · refine ⟨m + 1 - a + b, by omega, ?_⟩
    rw [← ea, ← itn_add, show a + (m + 1 - a + b) = (m + 1) + b by omega, itn_add, round0 h, eb]
theorem st_le (m i : Nat) : st m i ≤ m := Nat.le_of_lt_succ (Nat.mod_lt _ (Nat.succ_pos m))

/-! ### a free slot is found -/
abbrev at0 (owner : Array (Option Nat)) (j : Nat) : Option Nat := owner.getD j (some 0)
theorem runEnd_le {m i : Nat} (h : i ≤ m) : SetTable.runEnd m i ≤ m ∧ i ≤ SetTable.runEnd m i := by
  unfold SetTable.runEnd
  split <;> omega
theorem free_turn (m : Nat) (owner : Array (Option Nat)) (f i b : Nat) : SetTable.layClean.free m owner (f + 1) i b = match (List.range (SetTable.runEnd m i + 1 - i)).find? fun k => (at0 owner (i + k)).isNone with
    | some k => some (i + k)
    | none => SetTable.layClean.free m owner f (SetTable.leap m i b).1 (SetTable.leap m i b).2 := rfl
theorem free_hit {m : Nat} {owner : Array (Option Nat)} {f i b k : Nat} (hi : i ≤ m) (h : (List.range (SetTable.runEnd m i + 1 - i)).find? (fun k => (at0 owner (i + k)).isNone) = some k) :
    ∃ j', SetTable.layClean.free m owner (f + 1) i b = some j' ∧ j' ≤ m ∧ at0 owner j' = none := by
  refine ⟨i + k, ?_, ?_, ?_⟩
  · rw [free_turn, h]
  · have h1 := List.mem_of_find?_eq_some h
    have h2 := runEnd_le hi
    have h3 : k < SetTable.runEnd m i + 1 - i := by simpa using h1
    omega
  · have := List.find?_some h
    simpa using this
theorem free_go {m : Nat} (owner : Array (Option Nat)) {j : Nat} (hf : at0 owner j = none) : ∀ (s f i : Nat), i ≤ m → itn m s i = j → s < f → ∃ j', SetTable.layClean.free m owner f i 0 = some j' ∧ j' ≤ m ∧ at0 owner j' = none := by
  intro s
  induction s with
  | zero =>
    intro f i hi e hs
    have e' : i = j := e
    cases f with
    | zero => omega
    | succ f =>
      cases h : (List.range (SetTable.runEnd m i + 1 - i)).find? (fun k => (at0 owner (i + k)).isNone) with
      | some k => exact free_hit hi h
      | none =>
        have := List.find?_eq_none.mp h 0 (by have := runEnd_le hi; simp; omega)
        rw [Nat.add_zero, e', hf] at this
        exact absurd rfl this
  | succ s ih =>
    intro f i hi e hs
    cases f with
    | zero => omega
    | succ f =>
      cases h : (List.range (SetTable.runEnd m i + 1 - i)).find? (fun k => (at0 owner (i + k)).isNone) with
      | some k => exact free_hit hi h
      | none =>
        rw [free_turn, h]
        have e1 : SetTable.leap m i 0 = (st m i, 0) := rfl
        rw [e1]
        exact ih f (st m i) (st_le m i) e (by omega)
theorem free_small {m : Nat} (hm : M5 m) (owner : Array (Option Nat)) {j : Nat} (hj : j ≤ m) (hf : at0 owner j = none) {i b : Nat} (hi : i ≤ m) (hb : b < 32) :
    ∃ j', SetTable.layClean.free m owner (SetTable.turns m) i b = some j' ∧ j' ≤ m ∧ at0 owner j' = none := by
  have et : SetTable.turns m = (m + 14) + 1 := rfl
  rw [et]
  cases h : (List.range (SetTable.runEnd m i + 1 - i)).find? (fun k => (at0 owner (i + k)).isNone) with
  | some k => exact free_hit hi h
  | none =>
    rw [free_turn, h]
    have e1 : SetTable.leap m i b = (((i * 5 + 1 + b / 32) % (m + 1)), b / 32) := rfl
    have e2 : b / 32 = 0 := by omega
    rw [e1, e2, Nat.add_zero]
    obtain ⟨s, hs, es⟩ := meets hm (st_le m i) hj
    exact free_go owner hf s _ (st m i) (st_le m i) es (by omega)

/-! ### a whole table is laid -/
theorem fm_congr {α β : Type} {f g : α → Option β} : ∀ {l : List α}, (∀ a ∈ l, f a = g a) → l.filterMap f = l.filterMap g
  | [], _ => rfl
  | a :: l, h => by
    rw [List.filterMap_cons, List.filterMap_cons, h a List.mem_cons_self, fm_congr fun b hb => h b (List.mem_cons_of_mem _ hb)]
theorem filterMap_put {f : Nat → Option Nat} {j k : Nat} (hf : f j = none) : ∀ {l : List Nat}, l.Nodup → j ∈ l → (l.filterMap fun i => if i = j then some k else f i).Perm (k :: l.filterMap f)
  | [], _, h => by simp at h
  | i :: l, hd, h => by
    have hd' := List.nodup_cons.mp hd
    by_cases e : i = j
    · subst e
      rw [List.filterMap_cons, List.filterMap_cons, if_pos rfl, hf]
      simp only
      refine List.Perm.cons k ?_
      rw [fm_congr (g := f) fun a ha => by
        have : a ≠ i := fun q => hd'.1 (q ▸ ha)
        rw [if_neg this]]
    · have hm : j ∈ l := by
        rcases List.mem_cons.mp h with q | q
        · exact absurd q.symm e
        · exact q
      have ih := filterMap_put hf hd'.2 hm (k := k)
      rw [List.filterMap_cons, List.filterMap_cons, if_neg e]
      cases f i with
      | none => exact ih
      | some v => exact (ih.cons v).trans (List.Perm.swap k v _)
structure Ow (m k : Nat) (owner : Array (Option Nat)) : Prop where
  size : owner.size = m + 1
  perm : ((List.range (m + 1)).filterMap fun j => owner.getD j none).Perm (List.range k)
theorem getD_in {owner : Array (Option Nat)} {j : Nat} (h : j < owner.size) (d d' : Option Nat) : owner.getD j d = owner.getD j d' := by
  unfold Array.getD
  rw [dif_pos h, dif_pos h]
theorem filterMap_all {f : Nat → Option Nat} : ∀ {l : List Nat}, (∀ i ∈ l, f i ≠ none) → (l.filterMap f).length = l.length
  | [], _ => rfl
  | i :: l, h => by
    rw [List.filterMap_cons]
    cases e : f i with
    | none => exact absurd e (h i List.mem_cons_self)
    | some v =>
      simp only [List.length_cons]
      rw [filterMap_all fun a ha => h a (List.mem_cons_of_mem _ ha)]
theorem Ow.free {m k : Nat} {owner : Array (Option Nat)} (o : Ow m k owner) (hk : k ≤ m) : ∃ j, j ≤ m ∧ owner.getD j none = none := by
  apply Classical.byContradiction
  intro hno
  have h1 := filterMap_all (f := fun j => owner.getD j none) (l := List.range (m + 1)) fun i hi e => hno ⟨i, Nat.le_of_lt_succ (List.mem_range.mp hi), e⟩
  have h2 := o.perm.length_eq
  rw [h1, List.length_range, List.length_range] at h2
  omega
theorem Ow.step {m k : Nat} (hm : M5 m) {owner : Array (Option Nat)} (o : Ow m k owner) (hk : k ≤ m) {h : Int} (hb : SetTable.bits h < 32) :
    ∃ j, SetTable.layClean.free m owner (SetTable.turns m) (SetTable.bits h % (m + 1)) (SetTable.bits h) = some j ∧ Ow m (k + 1) (owner.setIfInBounds j (some k)) := by
  obtain ⟨j0, hj0, e0⟩ := o.free hk
  have hsz := o.size
  obtain ⟨j, h1, h2, h3⟩ := free_small hm owner hj0 (by rw [at0, getD_in (by omega) _ none]; exact e0) (i := SetTable.bits h % (m + 1)) (b := SetTable.bits h) (Nat.le_of_lt_succ (Nat.mod_lt _ (Nat.succ_pos m))) hb
  refine ⟨j, h1, by rw [Array.size_setIfInBounds]; exact hsz, ?_⟩
  have h3' : owner.getD j none = none := by rw [getD_in (by omega) none (some 0)]; exact h3
  have hcong : (List.range (m + 1)).filterMap (fun i => (owner.setIfInBounds j (some k)).getD i none) = (List.range (m + 1)).filterMap fun i => if i = j then some k else owner.getD i none := by
    refine fm_congr fun i hi => ?_
    have hi' : i < m + 1 := by simpa using hi
    have hio : i < owner.size := by omega
    have hio2 : i < (owner.setIfInBounds j (some k)).size := by rw [Array.size_setIfInBounds]; exact hio
    unfold Array.getD
    rw [dif_pos hio2, dif_pos hio]
    show (owner.setIfInBounds j (some k))[i]'hio2 = if i = j then some k else owner[i]'hio
    rw [Array.getElem_setIfInBounds]
    · by_cases e : i = j
      · subst e; simp
      · have : ¬ j = i := fun q => e q.symm
        simp [e, this]
    · exact hio
  rw [hcong]
  refine (filterMap_put h3' List.nodup_range (by simpa using Nat.lt_succ_of_le h2)).trans ?_
  rw [show List.range (k + 1) = List.range k ++ [k] from List.range_succ]
  exact (o.perm.cons k).trans (List.perm_append_comm (l₁ := [k]))
theorem Ow.init (m : Nat) : Ow m 0 (Array.replicate (m + 1) none) := by
  refine ⟨by simp, ?_⟩
  have : (List.range (m + 1)).filterMap (fun j => (Array.replicate (m + 1) (none : Option Nat)).getD j none) = [] := by
    rw [List.filterMap_eq_nil_iff]
    intro i hi
    have : i < m + 1 := by simpa using hi
    unfold Array.getD
    rw [dif_pos (by simpa using this)]
    show (Array.replicate (m + 1) (none : Option Nat))[i]'_ = none
    rw [Array.getElem_replicate]
  rw [this]
  exact List.Perm.refl _
def layTurn (m : Nat) (acc : Option (Array (Option Nat) × Nat)) (h : Int) : Option (Array (Option Nat) × Nat) := acc.bind fun (owner, k) =>
  (SetTable.layClean.free m owner (SetTable.turns m) (SetTable.bits h % (m + 1)) (SetTable.bits h)).bind fun j => some (owner.setIfInBounds j (some k), k + 1)
theorem layClean_fold (m : Nat) (hs : Array Int) : SetTable.layClean m hs = (hs.toList.foldl (layTurn m) (some (Array.replicate (m + 1) none, 0))).map (·.1) := by
  unfold SetTable.layClean
  rw [Array.foldl_toList]
  rfl
theorem lay_go {m : Nat} (hm : M5 m) : ∀ (l : List Int) (owner : Array (Option Nat)) (k : Nat), Ow m k owner → k + l.length ≤ m → (∀ h ∈ l, SetTable.bits h < 32) → ∃ owner', l.foldl (layTurn m) (some (owner, k)) = some (owner', k + l.length) ∧ Ow m (k + l.length) owner'
  | [], owner, k, o, _, _ => ⟨owner, rfl, o⟩
  | h :: l, owner, k, o, hl, hb => by
    obtain ⟨j, e, o2⟩ := o.step hm (by simp at hl; omega) (hb h List.mem_cons_self)
    obtain ⟨owner', e3, o3⟩ := lay_go hm l _ (k + 1) o2 (by simp at hl; omega) fun h' hh => hb h' (List.mem_cons_of_mem _ hh)
    have et : layTurn m (some (owner, k)) h = some (owner.setIfInBounds j (some k), k + 1) := by
      show (SetTable.layClean.free m owner (SetTable.turns m) (SetTable.bits h % (m + 1)) (SetTable.bits h)).bind (fun j => some (owner.setIfInBounds j (some k), k + 1)) = _
      rw [e]; rfl
    refine ⟨owner', ?_, ?_⟩
    · rw [List.foldl_cons, et, e3, List.length_cons]
      congr 2; omega
    · rw [List.length_cons, show k + (l.length + 1) = k + 1 + l.length by omega]
      exact o3
theorem laid_ok {m : Nat} (hm : M5 m) {hs : Array Int} (hn : hs.size ≤ m) (hb : ∀ h ∈ hs.toList, SetTable.bits h < 32) (fi mv : Nat) (led pl : Bool) :
    ∃ t order, SetTable.laid m fi mv led pl hs = some (t, order) ∧ order.toList.Perm (List.range hs.size) ∧ Ris t.place.toList ∧ t.place.size = hs.size ∧ t.mask = m ∧ t.dummies = #[] ∧ t.led = led := by
  obtain ⟨owner, e, o⟩ := lay_go hm hs.toList _ 0 (Ow.init m) (by simpa using hn) hb
  have e1 : SetTable.layClean m hs = some owner := by rw [layClean_fold, e]; rfl
  have e2 : SetTable.laid m fi mv led pl hs = some ({ mask := m, place := (((List.range (m + 1)).filterMap fun j => (owner.getD j none).map (j, ·)).map (·.1)).toArray, dummies := #[], finger := fi, led := led, moves := mv, plain := pl },
      (((List.range (m + 1)).filterMap fun j => (owner.getD j none).map (j, ·)).map (·.2)).toArray) := by
    unfold SetTable.laid
    rw [e1]; rfl
  have e3 : ((List.range (m + 1)).filterMap fun j => (owner.getD j none).map (j, ·)).map (·.2) = (List.range (m + 1)).filterMap fun j => owner.getD j none := by
    rw [List.map_filterMap]
    refine fm_congr fun j _ => ?_
    cases owner.getD j none <;> rfl
  have op : ((List.range (m + 1)).filterMap fun j => owner.getD j none).Perm (List.range hs.size) := by
    have := o.perm
    rw [Nat.zero_add, Array.length_toList] at this
    exact this
  refine ⟨_, _, e2, ?_, ?_, ?_, rfl, rfl, rfl⟩
  · show ((((List.range (m + 1)).filterMap fun j => (owner.getD j none).map (j, ·)).map (·.2)).toArray).toList.Perm _
    rw [e3]
    exact op
  · show ((((List.range (m + 1)).filterMap fun j => (owner.getD j none).map (j, ·)).map (·.1)).toArray).toList.Pairwise (· < ·)
    have : ((((List.range (m + 1)).filterMap fun j => (owner.getD j none).map (j, ·)).map (·.1)).toArray).toList = (List.range (m + 1)).filter fun j => (owner.getD j none).isSome := by
      show ((List.range (m + 1)).filterMap fun j => (owner.getD j none).map (j, ·)).map (·.1) = _
      rw [List.map_filterMap, ← List.filterMap_eq_filter]
      refine fm_congr fun j _ => ?_
      cases h : owner.getD j none <;> simp [Option.guard, h]
    rw [this]
    exact List.pairwise_lt_range.filter _
  · show ((((List.range (m + 1)).filterMap fun j => (owner.getD j none).map (j, ·)).map (·.1)).toArray).size = _
    have := op.length_eq
    rw [List.length_range, ← e3, List.length_map] at this
    rw [List.size_toArray, List.length_map]
    exact this
theorem order_perm {es : Array (Int × Value)} {order : Array Nat} (h : order.toList.Perm (List.range es.size)) : (order.filterMap (es[·]?)).toList.Perm es.toList := by
  rw [Array.toList_filterMap]
  refine (h.filterMap _).trans ?_
  have : (List.range es.size).filterMap (es[·]?) = es.toList := by
    have e : es.toList = (List.range es.toList.length).filterMap (es.toList[·]?) := by
      generalize es.toList = l
      induction l with
      | nil => rfl
      | cons a l ih =>
        rw [List.length_cons, List.range_succ_eq_map, List.filterMap_cons, List.filterMap_map]
        show a :: l = a :: _
        congr 1
    rw [e, Array.length_toList]
    refine fm_congr fun i hi => ?_
    rw [Array.getElem?_toList]
  rw [this]
end SU
set_option Elab.async false
set_option linter.all false
set_option maxRecDepth 100000
set_option maxHeartbeats 4000000
/-! set | set: one set laid by another's members. -/
namespace SU
open PySem PySem.Spec PyProof.Rows L2

structure Goods (w : World) (es : Array (Int × Value)) (t : SetTable) (S : Int → Bool) (n : Nat) : Prop where
  g : ∀ e ∈ es.toList, GoodE e
  nd : (es.toList.map keyOf).Nodup
  mem : ∀ k, S k = true ↔ k ∈ es.toList.map keyOf
  fits : t.fits es.size = true
  size : es.size = n
  ris : Ris t.place.toList
  led : w.params.followText "set-order" = true ∨ t.led = true
def Tab (w : World) (h : Heap) (a : Addr) (es : Array (Int × Value)) (t : SetTable) (S : Int → Bool) (n : Nat) : Prop := ∃ o ep, h.get? a = some o ∧ o.ExactSet ∧ o.data = .set es ep t ∧ Goods w es t S n
theorem tab_setR {w : World} {h : Heap} {a : Addr} {es : Array (Int × Value)} {t : SetTable} {S : Int → Bool} {n : Nat} (T : Tab w h a es t S n) (hn : n < scanBound) : SetR w h a S n := by
  obtain ⟨o, ep, ho, hex, hd, G⟩ := T
  exact ⟨o, es, ep, t, ho, hex, hd, G.g, G.nd, G.mem, by rw [G.size]; exact hn, G.fits, G.size, G.ris, G.led⟩
theorem bits_small {k : Int} (h0 : 0 ≤ k) (h1 : k < 32) : SetTable.bits (hashInt k) < 32 := by
  have h : ∀ n : Nat, n < 32 → SetTable.bits (hashInt (n : Int)) < 32 := by decide +kernel
  obtain ⟨n, rfl⟩ := Int.eq_ofNat_of_zero_le h0
  exact h n (by omega)
def Sm (S : Int → Bool) : Prop := ∀ k, S k = true → 0 ≤ k ∧ k < 32
theorem goods_bits {w : World} {es : Array (Int × Value)} {t : SetTable} {S : Int → Bool} {n : Nat} (G : Goods w es t S n) (sm : Sm S) : ∀ h ∈ (es.map (·.1)).toList, SetTable.bits h < 32 := by
  intro h hh
  rw [Array.toList_map] at hh
  obtain ⟨e, he, rfl⟩ := List.mem_map.mp hh
  obtain ⟨k, tk, h1, h2⟩ := G.g e he
  have hk : keyOf e = k := by unfold keyOf; rw [h1]
  have := sm k ((G.mem k).mpr (by rw [← hk]; exact List.mem_map_of_mem he))
  rw [h2]
  exact bits_small this.1 this.2
theorem goods_perm {w : World} {es es' : Array (Int × Value)} {t t' : SetTable} {S : Int → Bool} {n : Nat} (G : Goods w es t S n) (p : es'.toList.Perm es.toList) (hf : t'.fits es'.size = true) (hr : Ris t'.place.toList)
    (hl : w.params.followText "set-order" = true ∨ t'.led = true) : Goods w es' t' S n := by
  have hs : es'.size = es.size := by rw [← Array.length_toList, p.length_eq, Array.length_toList]
  exact ⟨fun e he => G.g e (p.mem_iff.mp he), (p.map keyOf).nodup_iff.mpr G.nd, fun k => (G.mem k).trans (p.map keyOf).mem_iff.symm, hf, by rw [hs, G.size], hr, hl⟩
theorem fits_iff {t : SetTable} {n : Nat} : t.fits n = true ↔ t.place.size = n ∧ t.fill ≤ t.mask := by
  unfold SetTable.fits
  rw [Bool.and_eq_true, beq_iff_eq, decide_eq_true_eq]
theorem sizes : ∀ j : Nat, j ≤ 50 → (SetTable.sizeAbove (j * 2) - 1 = 7 ∨ SetTable.sizeAbove (j * 2) - 1 = 15 ∨ SetTable.sizeAbove (j * 2) - 1 = 31 ∨ SetTable.sizeAbove (j * 2) - 1 = 63 ∨ SetTable.sizeAbove (j * 2) - 1 = 127) ∧
    SetTable.sizeAbove (j * 2) ≤ 128 ∧ j ≤ SetTable.sizeAbove (j * 2) - 1 := by
  have h : ∀ j : Nat, j < 51 → (SetTable.sizeAbove (j * 2) - 1 = 7 ∨ SetTable.sizeAbove (j * 2) - 1 = 15 ∨ SetTable.sizeAbove (j * 2) - 1 = 31 ∨ SetTable.sizeAbove (j * 2) - 1 = 63 ∨ SetTable.sizeAbove (j * 2) - 1 = 127) ∧
    SetTable.sizeAbove (j * 2) ≤ 128 ∧ j ≤ SetTable.sizeAbove (j * 2) - 1 := by decide +kernel
  exact fun j hj => h j (by omega)
section
variable {P : Program} {w : World} {A : Around} {E : Value → Shared → Prop} {s : Shared} {a : Addr} {S : Int → Bool} {n : Nat} {es : Array (Int × Value)} {t : SetTable}
theorem relay {wanted M : Nat} (T : Tab w s.heap a es t S n) (sm : Sm S) (hM : SetTable.sizeAbove wanted - 1 = M) (h5 : M5 M) (h128 : SetTable.sizeAbove wanted ≤ 128) (hn : n ≤ M) {Q : Unit → Shared → Prop}
    (hQ : ∀ h' es' t', Heap.SameBut a s.heap h' → Tab w h' a es' t' S n → t'.mask = M → t'.dummies = #[] → Q () { s with heap := h' }) : wpAny (model P w) A (setRelay a wanted) Q E s := by
  obtain ⟨o, ep, ho, hex, hd, G⟩ := T
  obtain ⟨t', order, e, hp, hr, hsz, hm, hdm, hl⟩ := laid_ok (m := M) h5 (hs := es.map (·.1)) (by rw [Array.size_map, G.size]; exact hn) (goods_bits G sm) t.finger (t.movedTo M) t.led t.plain
  have e' : t.relaid (es.map (·.1)) wanted = some (t', order) := by
    show SetTable.laid (SetTable.sizeAbove wanted - 1) t.finger (t.movedTo (SetTable.sizeAbove wanted - 1)) t.led t.plain _ = _
    rw [hM]; exact e
  rw [Array.size_map] at hp hsz
  have pm := order_perm (es := es) hp
  have hs2 : (order.filterMap (es[·]?)).size = es.size := by rw [← Array.length_toList, pm.length_eq, Array.length_toList]
  have hn127 : n ≤ 127 := by
    rcases h5 with z | z | z | z | z <;> omega
  rw [setRelay_eq]
  refine wpAny_bind (wpAny_setState_of ho hd G.fits ?_)
  dsimp only
  refine wp_if_neg (by rw [sizeLine_eq]; omega) ?_
  try refine wpAny_bind (wpAny_pure ?_)
  rw [e']
  dsimp only
  refine wpAny_bind ?_
  refine wp_if_neg (by rw [hs2]; simp) ?_
  try refine wpAny_bind (wpAny_pure ?_)
  refine wpAny_pure ?_
  dsimp only
  refine wpAny_storeSet_of ho hd ?_ (by rw [hs2, G.size, sizeLine_eq]; omega)
  have hfit : t'.fits (order.filterMap (es[·]?)).size = true := by
    rw [fits_iff, hs2]
    refine ⟨hsz, ?_⟩
    unfold SetTable.fill
    rw [hsz, hdm, hm, G.size]
    simpa using hn
  exact hQ _ _ t' (Heap.SameBut.update ..) ⟨_, ep + 1, store_at ho hd, ⟨hex.1, hex.2.1, hex.2.2⟩, rfl, goods_perm G pm hfit hr (by rw [hl]; exact G.led)⟩ hm hdm
theorem room {more : Nat} (T : Tab w s.heap a es t S n) (sm : Sm S) (h5 : M5 t.mask) (hn : n + more ≤ 50) {Q : Unit → Shared → Prop}
    (hQ : ∀ h' es' t', Heap.SameBut a s.heap h' → Tab w h' a es' t' S n → M5 t'.mask → t'.fill + more ≤ t'.mask → (t.fill = 0 → t'.fill = 0) → Q () { s with heap := h' }) : wpAny (model P w) A (setRoomFor a more) Q E s := by
  have T' := T
  obtain ⟨o, ep, ho, hex, hd, G⟩ := T'
  have hsz := (fits_iff.mp G.fits).1
  unfold setRoomFor
  refine wpAny_bind (wpAny_setState_of ho hd G.fits ?_)
  dsimp only
  unfold SetTable.roomFor
  by_cases hc : (t.fill + more) * 5 ≥ t.mask * 3
  · rw [if_pos hc]
    dsimp only
    obtain ⟨s1, s2, s3⟩ := sizes (n + more) hn
    rw [show t.place.size = n by rw [hsz, G.size]]
    refine relay T sm rfl s1 s2 (by omega) fun h' es' t' sb T2 hm hdm => ?_
    have hsz2 : t'.place.size = n := by
      obtain ⟨_, _, _, _, _, G2⟩ := T2
      rw [(fits_iff.mp G2.fits).1, G2.size]
    have hfl : t'.fill = n := by unfold SetTable.fill; rw [hsz2, hdm]; rfl
    refine hQ h' es' t' sb T2 (by rw [hm]; exact s1) (by rw [hfl, hm]; exact s3) fun h0 => ?_
    rw [hfl]
    unfold SetTable.fill at h0
    rw [hsz, G.size] at h0
    omega
  · rw [if_neg hc]
    dsimp only
    refine wpAny_pure (hQ s.heap es t (Heap.SameBut.refl a s.heap) T h5 (by omega) fun h => h)
end
end SU
set_option Elab.async false
set_option linter.all false
set_option maxRecDepth 100000
set_option maxHeartbeats 4000000
namespace SU
open PySem PySem.Spec PyProof.Rows L2
theorem setWalk_eq (a : Addr) : setWalk a = (do
    let (es, epoch, t) ← setState a
    if ← setsByText then return pickOrder ((← ask).params.setOrder a epoch) es
    if (!t.plain && es.size > 1) then return (← drawOrder es.size es.toList).toArray
    let _ ← ((if !t.led && es.size > 1 then unsupported "set:maker-not-led" else pure ()) : Sem Unit)
    return es) := by rfl
theorem setMerge_eq (s o : Addr) (each : Sem Unit) : setMerge s o each = (do
    if s == o then return
    let (eo, epoch, to) ← setState o
    if eo.isEmpty then return
    setRoomFor s eo.size
    let (_, _, ts) ← setState s
    match ts.road to with
    | .slotForSlot => storeSet s eo { to with finger := ts.finger, led := ts.led && to.led, moves := ts.moves, plain := ts.plain && to.plain }
    | .clean =>
      let (es, t) ← (do
        let some (t, order) := SetTable.laid ts.mask ts.finger ts.moves (led := ts.led && to.led) (plain := ts.plain && to.plain) (eo.map (·.1)) | unsupported "internal:set-table-without-room"
        let es' := order.filterMap (eo[·]?)
        if es'.size != eo.size then unsupported "internal:set-table-lost-an-element"
        pure (es', t) : Sem (Array (Int × Value) × SetTable))
      storeSet s es t
    | .oneByOne =>
      for (h, x) in ← setWalkUnseen o [s] (some s) do
        let _ ← holding [x] (setAddHashed s x h)
        each
        if (← setState o).2.1 != epoch then unsupported "set.changed-during-merge") := by rfl
section
variable {P : Program} {w : World} {A : Around} {E : Value → Shared → Prop} {s : Shared} {a b : Addr} {S S2 : Int → Bool} {n n2 : Nat} {es eo : Array (Int × Value)} {t to : SetTable}
theorem walk_at {Q : Array (Int × Value) → Shared → Prop} {o : Obj} {ep : Nat} (ho : s.heap.get? b = some o) (hd : o.data = .set eo ep to) (G : Goods w eo to S2 n2)
    (hQ : ∀ (out : Array (Int × Value)) d, out.toList.Perm eo.toList → Q out { s with drawn := d }) : wpAny (model P w) A (setWalk b) Q E s := by
  rw [setWalk_eq]
  refine wpAny_bind (wpAny_setState_of ho hd G.fits ?_)
  dsimp only
  refine wpAny_bind (wpAny_byText ?_)
  cases hbt : w.params.followText "set-order" with
  | true =>
    refine wp_if_pos rfl ?_
    refine wpAny_bind ?_
    refine wpAny_askSetting (wpAny_pure ?_)
    exact hQ _ s.drawn (pick_perm _ _)
  | false =>
    refine wp_if_neg Bool.false_ne_true ?_
    by_cases hp : (!to.plain && decide (eo.size > 1)) = true
    · refine wp_if_pos hp ?_
      refine wpAny_bind (drawOrder_at _ _ _ _ (by rw [Array.length_toList]; exact Nat.le_refl _) fun ys d pm => ?_)
      refine wpAny_pure (hQ _ d ?_)
      exact pm
    · refine wp_if_neg hp ?_
      have hl : to.led = true := by
        rcases G.led with z | z
        · rw [hbt] at z; cases z
        · exact z
      refine wpAny_bind ?_
      rw [hl]
      refine wp_if_neg (by simp) ?_
      refine wpAny_pure ?_
      exact wpAny_pure (hQ eo s.drawn (List.Perm.refl _))
/-- nothing to do: the members are no things of the heap -/
theorem quiet_at : ∀ (l : List Addr), (∀ a ∈ l, ∃ es t S n, Tab w s.heap a es t S n) → ∀ {Q : Bool → Shared → Prop}, Q true s → wpAny (model P w) A (setsQuiet l) Q E s := by
  intro l hl Q hQ
  unfold setsQuiet
  refine wpAny_bind (wpAny_forIn_list _ (fun rest b s' => b.1 = none ∧ s' = s ∧ ∀ a ∈ rest, ∃ es t S n, Tab w s.heap a es t S n) _ ?_ ?_ _ _ ⟨rfl, rfl, hl⟩)
  · rintro a rest b s' ⟨hb, rfl, hall⟩
    obtain ⟨es, t, S, n, o, ep, ho, hex, hd, G⟩ := hall a List.mem_cons_self
    unfold setEntries
    refine wpAny_bind (wpAny_bind (wpAny_setState_of ho hd G.fits ?_))
    refine wpAny_pure ?_
    dsimp only
    rw [← Array.forIn_toList]
    refine wpAny_bind (wpAny_forIn_list _ (fun rest2 (b : Option Bool × Unit) s'' => b.1 = none ∧ s'' = s' ∧ ∀ e ∈ rest2, GoodE e) _ ?_ ?_ _ _ ⟨rfl, rfl, G.g⟩)
    · rintro ⟨h, x⟩ rest2 b s'' ⟨hb2, rfl, hg⟩
      obtain ⟨k, tk, h1, h2⟩ := hg _ List.mem_cons_self
      dsimp only at h1
      subst h1
      exact wpAny_pure ⟨rfl, rfl, fun e he => hg e (List.mem_cons_of_mem _ he)⟩
    · rintro ⟨b1, b2⟩ s'' ⟨hb2, rfl, _⟩
      cases hb2
      dsimp only
      exact wpAny_pure ⟨rfl, rfl, fun e he => hall e (List.mem_cons_of_mem _ he)⟩
  · rintro ⟨b1, b2⟩ s'' ⟨hb2, rfl, _⟩
    cases hb2
    dsimp only
    exact wpAny_pure hQ
/-- the walk that nobody sees: it may mark the set that is filled -/
theorem unseen_at {Q : Array (Int × Value) → Shared → Prop} {o : Obj} {ep : Nat} (ho : s.heap.get? b = some o) (hex : o.ExactSet) (hd : o.data = .set eo ep to) (G : Goods w eo to S2 n2) (T : Tab w s.heap a es t S n) (hne : b ≠ a) (hn : n < scanBound)
    (hQ : ∀ (out : Array (Int × Value)) h' t' d, out.toList.Perm eo.toList → Heap.SameBut a s.heap h' → Tab w h' a es t' S n → Q out { s with heap := h', drawn := d }) : wpAny (model P w) A (setWalkUnseen b [a] (some a)) Q E s := by
  have hw : ∀ {Q' : Array (Int × Value) → Shared → Prop}, (∀ out h' t' d, out.toList.Perm eo.toList → Heap.SameBut a s.heap h' → Tab w h' a es t' S n → Q' out { s with heap := h', drawn := d }) → wpAny (model P w) A (setWalk b) Q' E s :=
    fun h => walk_at ho hd G fun out d pm => h out s.heap t d pm (Heap.SameBut.refl a s.heap) T
  unfold setWalkUnseen
  refine wpAny_bind (wpAny_setState_of ho hd G.fits ?_)
  dsimp only
  refine wpAny_bind (wpAny_byText ?_)
  by_cases h1 : (w.params.followText "set-order" || to.led && to.plain || decide (eo.size ≤ 1)) = true
  · refine wp_if_pos h1 ?_
    exact hw hQ
  · refine wp_if_neg h1 ?_
    refine wpAny_bind (quiet_at [b, a] (fun c hc => ?_) ?_)
    · rcases List.mem_cons.mp hc with z | z
      · subst z; exact ⟨eo, to, S2, n2, o, ep, ho, hex, hd, G⟩
      · rcases List.mem_singleton.mp z with rfl
        exact ⟨es, t, S, n, T⟩
    · refine wp_if_neg (by simp) ?_
      refine wpAny_bind (wpAny_rule ?_)
      have T' := T
      obtain ⟨oa, epa, hoa, hexa, hda, Ga⟩ := T'
      refine wpAny_bind (wpAny_setState_of hoa hda Ga.fits ?_)
      dsimp only
      have hbt : w.params.followText "set-order" = false := by
        cases z : w.params.followText "set-order" with
        | false => rfl
        | true => rw [z] at h1; simp at h1
      have hlo : to.led = true := by
        rcases G.led with z | z
        · rw [hbt] at z; cases z
        · exact z
      by_cases h2 : ((t.led && !to.led) || (t.plain && !to.plain)) = true
      · refine wp_if_pos h2 ?_
        refine wpAny_bind (wpAny_storeSet_of hoa hda ?_ (fits_of_scanBound (by rw [Ga.size]; exact hn)))
        refine wpAny_pure ?_
        refine hQ eo _ _ s.drawn (List.Perm.refl _) (Heap.SameBut.update ..) ⟨_, epa + 1, store_at hoa hda, ⟨hexa.1, hexa.2.1, hexa.2.2⟩, rfl, ⟨Ga.g, Ga.nd, Ga.mem, Ga.fits, Ga.size, Ga.ris, ?_⟩⟩
        rcases Ga.led with z | z
        · exact .inl z
        · right
          show (t.led && to.led) = true
          rw [z, hlo]; rfl
      · refine wp_if_neg h2 ?_
        exact wpAny_pure (hQ eo s.heap t s.drawn (List.Perm.refl _) (Heap.SameBut.refl a s.heap) T)
theorem tab_other {h h' : Heap} {o : Obj} (ho : h.get? b = some o) (sb : Heap.SameBut a h h') (hne : b ≠ a) : h'.get? b = some o := (sb.2 b hne).trans ho
/-- the members of b, one by one -/
theorem oneByOne {h0 : Heap} {each : Sem Unit} {ep : Nat} {o : Obj} (hne : b ≠ a) (hd : o.data = .set eo ep to) (hf : to.fits eo.size = true)
    (he : ∀ (s : Shared) (Q : Unit → Shared → Prop), s.heap.get? b = some o → Q () s → wpAny (model P w) A each Q E s) :
    ∀ (l : List (Int × Value)) (s : Shared) (S : Int → Bool) (n : Nat), (∀ e ∈ l, GoodE e) → s.heap.get? b = some o → SetR w s.heap a S n → n + l.length + 1 < scanBound → Heap.SameBut a h0 s.heap → ∀ {Q : Unit → Shared → Prop},
      (∀ h' S' n', Heap.SameBut a h0 h' → SetR w h' a S' n' → n' ≤ n + l.length → (∀ k, S' k = true ↔ S k = true ∨ k ∈ l.map keyOf) → Q () { s with heap := h' }) →
      wpAny (model P w) A (forIn l () fun x _ => do
        let (h, x) := x
        let _ ← holding [x] (setAddHashed a x h)
        each
        if (← setState b).2.1 != ep then do
          unsupported "set.changed-during-merge"
          pure (ForInStep.yield ())
        else pure (ForInStep.yield ())) Q E s := by
  intro l
  induction l with
  | nil =>
    intro s S n hg hb R hl sb Q hQ
    rw [List.forIn_nil]
    exact wpAny_pure (hQ s.heap S n sb R (by simp) fun k => by simp)
  | cons e l ih =>
    intro s S n hg hb R hl sb Q hQ
    obtain ⟨h, x⟩ := e
    obtain ⟨k, tk, h1, h2⟩ := hg _ List.mem_cons_self
    dsimp only at h1 h2
    subst h1 h2
    rw [List.forIn_cons]
    refine wpAny_bind ?_
    dsimp only
    rw [List.length_cons] at hl
    refine wpAny_bind (wpAny_holding (setR_add_hashed (P := P) (k := k) (tk := tk) R (by omega) fun h' sb2 R2 => ?_))
    have hb2 : h'.get? b = some o := tab_other hb sb2 hne
    refine wpAny_bind (he _ _ hb2 ?_)
    refine wpAny_bind (wpAny_setState_of hb2 hd hf ?_)
    dsimp only
    refine wp_if_neg (by simp) ?_
    refine wpAny_pure ?_
    have hle : (if S k = true then n else n + 1) ≤ n + 1 := by split <;> omega
    refine ih { s with heap := h' } _ _ (fun e he => hg e (List.mem_cons_of_mem _ he)) hb2 R2 (by omega) (sb.trans sb2) fun h3 S3 n3 sb3 R3 hn3 hS3 => ?_
    refine hQ h3 S3 n3 sb3 R3 (by rw [List.length_cons]; omega) fun j => ?_
    rw [hS3]
    simp only [Bool.or_eq_true, decide_eq_true_eq, List.map_cons, List.mem_cons]
    show _ ↔ S j = true ∨ j = k ∨ _
    constructor
    · rintro ((h | h) | h)
      · exact .inl h
      · exact .inr (.inl h)
      · exact .inr (.inr h)
    · rintro (h | h | h)
      · exact .inl (.inl h)
      · exact .inl (.inr h)
      · exact .inr h
/-- b's members into a (a ≠ b): a has room in its table -/
theorem merge_at {each : Sem Unit} {ep : Nat} {o : Obj} (T : Tab w s.heap a es t S n) (h5 : M5 t.mask) (sm : Sm S) (ho : s.heap.get? b = some o) (hex : o.ExactSet) (hd : o.data = .set eo ep to) (G : Goods w eo to S2 n2) (sm2 : Sm S2) (hne : b ≠ a)
    (hn : n + n2 ≤ 50) (he : ∀ (s : Shared) (Q : Unit → Shared → Prop), s.heap.get? b = some o → Q () s → wpAny (model P w) A each Q E s) {Q : Unit → Shared → Prop}
    (hQ : ∀ h' d S' n', Heap.SameBut a s.heap h' → SetR w h' a S' n' → n' ≤ n + n2 → (∀ k, S' k = true ↔ S k = true ∨ S2 k = true) → (t.fill = 0 → ∃ es' t', Tab w h' a es' t' S' n' ∧ M5 t'.mask) → Q () { s with heap := h', drawn := d }) :
    wpAny (model P w) A (setMerge a b each) Q E s := by
  have hsz2 := G.size
  rw [setMerge_eq]
  refine wp_if_neg (by simpa using fun h => hne h.symm) ?_
  refine wpAny_bind (wpAny_setState_of ho hd G.fits ?_)
  dsimp only
  by_cases hem : eo.isEmpty = true
  · refine wp_if_pos hem ?_
    have h0 : eo.size = 0 := by simpa using hem
    have h00 : ∀ k, S2 k = true → False := fun k hk => by
      have := (G.mem k).mp hk
      have he0 : eo.toList = [] := by
        apply List.eq_nil_of_length_eq_zero
        rw [Array.length_toList]; exact h0
      rw [he0] at this
      simp at this
    refine wpAny_pure (hQ s.heap s.drawn S n (Heap.SameBut.refl a s.heap) (tab_setR T (by unfold scanBound; omega)) (by omega) (fun k => ⟨.inl, fun h => h.elim id fun h => (h00 k h).elim⟩) fun _ => ⟨es, t, T, h5⟩)
  refine wp_if_neg hem ?_
  rw [hsz2]
  refine wpAny_bind (room T sm h5 hn fun h1 es1 t1 sb1 T1 m1 hroom hfill => ?_)
  have hb1 : h1.get? b = some o := tab_other ho sb1 hne
  have T1' := T1
  obtain ⟨o1, ep1, ho1, hex1, hd1, G1⟩ := T1'
  refine wpAny_bind (wpAny_setState_of (s := { s with heap := h1 }) ho1 hd1 G1.fits ?_)
  dsimp only
  have hfl : ∀ {m : Nat}, t1.fill = m → n = 0 ∨ m ≠ 0 := fun {m} h => by
    have := (fits_iff.mp G1.fits).1
    rw [G1.size] at this
    unfold SetTable.fill at h
    omega
  by_cases hf0 : t1.fill = 0
  · have hn0 : n = 0 := (hfl hf0).resolve_right (by simp)
    have hS0 : ∀ k, S k = true → False := fun k hk => by
      have := (G1.mem k).mp hk
      have he0 : es1.toList = [] := by
        apply List.eq_nil_of_length_eq_zero
        rw [Array.length_toList, G1.size]; exact hn0
      rw [he0] at this
      simp at this
    have hS : ∀ k, S2 k = true ↔ S k = true ∨ S2 k = true := fun k => ⟨.inr, fun h => h.elim (fun h => (hS0 k h).elim) id⟩
    have hled : w.params.followText "set-order" = true ∨ (t1.led && to.led) = true := by
      rcases G1.led with z | z
      · exact .inl z
      · rcases G.led with z2 | z2
        · exact .inl z2
        · right; rw [z, z2]; rfl
    unfold SetTable.road
    rw [if_neg (by simpa using hf0)]
    by_cases hmm : (t1.mask == to.mask && to.dummies.isEmpty) = true
    · rw [if_pos hmm]
      dsimp only
      refine wpAny_storeSet_of (s := { s with heap := h1 }) ho1 hd1 ?_ (by rw [hsz2, sizeLine_eq]; omega)
      rw [Bool.and_eq_true, beq_iff_eq] at hmm
      have T2 : Tab w (h1.update a (Obj.putSet eo { to with finger := t1.finger, led := t1.led && to.led, moves := t1.moves, plain := t1.plain && to.plain })) a eo { to with finger := t1.finger, led := t1.led && to.led, moves := t1.moves, plain := t1.plain && to.plain } S2 n2 :=
        ⟨_, ep1 + 1, store_at ho1 hd1, ⟨hex1.1, hex1.2.1, hex1.2.2⟩, rfl, ⟨G.g, G.nd, G.mem, G.fits, G.size, G.ris, hled⟩⟩
      exact hQ _ s.drawn S2 n2 (sb1.trans (Heap.SameBut.update ..)) (tab_setR T2 (by unfold scanBound; omega)) (by omega) hS fun _ => ⟨_, _, T2, by show M5 to.mask; rw [← hmm.1]; exact m1⟩
    · rw [if_neg hmm]
      dsimp only
      have hnm : n2 ≤ t1.mask := by omega
      obtain ⟨t', order, e, hp, hr, hsz, hm, hdm, hl⟩ := laid_ok m1 (hs := eo.map (·.1)) (by rw [Array.size_map, hsz2]; exact hnm) (goods_bits G sm2) t1.finger t1.moves (t1.led && to.led) (t1.plain && to.plain)
      rw [Array.size_map] at hp hsz
      have pm := order_perm (es := eo) hp
      have hs2 : (order.filterMap (eo[·]?)).size = eo.size := by rw [← Array.length_toList, pm.length_eq, Array.length_toList]
      rw [e]
      dsimp only
      refine wpAny_bind ?_
      refine wp_if_neg (by rw [hs2, hsz2]; simp) ?_
      try refine wpAny_bind (wpAny_pure ?_)
      refine wpAny_pure ?_
      dsimp only
      refine wpAny_storeSet_of (s := { s with heap := h1 }) ho1 hd1 ?_ (by rw [hs2, hsz2, sizeLine_eq]; omega)
      have hfit : t'.fits (order.filterMap (eo[·]?)).size = true := by
        rw [fits_iff, hs2]
        refine ⟨hsz, ?_⟩
        unfold SetTable.fill
        rw [hsz, hdm, hm, hsz2]
        simpa using hnm
      have T2 : Tab w (h1.update a (Obj.putSet (order.filterMap (eo[·]?)) t')) a (order.filterMap (eo[·]?)) t' S2 n2 :=
        ⟨_, ep1 + 1, store_at ho1 hd1, ⟨hex1.1, hex1.2.1, hex1.2.2⟩, rfl, goods_perm G pm hfit hr (by rw [hl]; exact hled)⟩
      exact hQ _ s.drawn S2 n2 (sb1.trans (Heap.SameBut.update ..)) (tab_setR T2 (by unfold scanBound; omega)) (by omega) hS fun _ => ⟨_, _, T2, by rw [hm]; exact m1⟩
  · unfold SetTable.road
    rw [if_pos (by simpa using hf0)]
    dsimp only
    refine wpAny_bind (unseen_at (s := { s with heap := h1 }) hb1 hex hd G T1 hne (by unfold scanBound; omega) fun out h2 t2 d pm sb2 T2 => ?_)
    have hb2 : h2.get? b = some o := tab_other hb1 sb2 hne
    have hlen : out.toList.length = n2 := by rw [pm.length_eq, Array.length_toList, hsz2]
    rw [← Array.forIn_toList]
    refine wpAny_bind (oneByOne (s := { s with heap := h2, drawn := d }) (ep := ep) (h0 := s.heap) hne hd G.fits he out.toList S n (fun e he => G.g e (pm.mem_iff.mp he)) hb2 (tab_setR T2 (by unfold scanBound; omega)) (by unfold scanBound; omega) (sb1.trans sb2) fun h3 S3 n3 sb3 R3 hn3 hS3 => wpAny_pure ?_)
    refine hQ h3 d S3 n3 sb3 R3 (by omega) (fun k => ?_) fun h0 => absurd (hfill h0) hf0
    rw [hS3, G.mem, (pm.map keyOf).mem_iff]
theorem setR_tab (R : SetR w s.heap a S n) : ∃ o es ep t, s.heap.get? a = some o ∧ o.ExactSet ∧ o.data = .set es ep t ∧ Goods w es t S n := by
  obtain ⟨o, es, ep, t, ho, hex, hd, g, nd, hm, hb, hf, hn, hr, hl⟩ := R
  exact ⟨o, es, ep, t, ho, hex, hd, g, nd, hm, hf, hn, hr, hl⟩
theorem entry_set_or : entryFor table "set.__or__" = some Builtin.«frozenset.__or__» :=
  entryFor_alias (id' := "frozenset.__or__") (by rw [fastTable_eq_tree]; kernel_rfl) rfl (by decide +kernel) (by rw [fastTable_eq_tree]; kernel_rfl)
open Builtin.Frozenset in
theorem or_eq (a b : Addr) : Builtin.«frozenset.__or__» ⟨[.ref a, .ref b], []⟩ = (do
    let (self, other) ← slot1 "__or__" ⟨[.ref a, .ref b], []⟩
    let (l, r) := if false then (other, self) else (self, other)
    if !(← isAnySet l <&&> isAnySet r) then rule s!"frozenset.{"__or__"}.declined"; return ← ret .notImplemented
    ret (← (fun (id : String) (l : Addr) (r : Value) => (do
      let result ← copyOf l
      if r != .ref l then holding [result] (updateFrom id (← addrOf result) r)
      return result : Sem Value)) s!"frozenset.{"__or__"}" (← addrOf l) r)) := by rfl
theorem anySet_set {Q : Bool → Shared → Prop} (hT : s.TypeIs (.ref a) "set") (h : Q true s) : wpAny (model P w) A (Builtin.Frozenset.isAnySet (.ref a)) Q E s := by
  unfold Builtin.Frozenset.isAnySet orM
  refine wpAny_bind (wpAny_isInstance hT sub_set_self ?_)
  exact wpAny_pure h
theorem base_set {Q : Value → Shared → Prop} (hT : s.TypeIs (.ref a) "set") (h : Q (.type "set") s) : wpAny (model P w) A (Builtin.Frozenset.baseOf a) Q E s := by
  unfold Builtin.Frozenset.baseOf
  refine wpAny_bind (wpAny_isInstance hT sub_set_self ?_)
  exact wpAny_pure h
theorem copy_at {Q : Value → Shared → Prop} (R : SetR w s.heap b S n) (sm : Sm S) (hn : n ≤ 25)
    (hQ : ∀ h' d S' n' es t, (∀ c o, s.heap.get? c = some o → h'.get? c = some o) → Tab w h' s.heap.objs.size es t S' n' → n' ≤ n → (∀ k, S' k = true ↔ S k = true) → M5 t.mask → Q (.ref s.heap.objs.size) { s with heap := h', drawn := d }) :
    wpAny (model P w) A (Builtin.Frozenset.copyOf b) Q E s := by
  obtain ⟨o, es, ep, t, ho, hex, hd, G⟩ := setR_tab R
  unfold Builtin.Frozenset.copyOf
  refine wpAny_bind (base_set ⟨o, ho, hex.1⟩ ?_)
  refine wpAny_bind (PpSet.newSet_ok ?_)
  show wpAny _ _ (setMerge s.heap.objs.size b _ >>= fun _ => pure _) _ _ _
  have T0 : Tab w (s.heap.push { cls := .type "set", dict := none, data := .set #[] 0 (.fresh 0 0 (!w.params.followText "set-order")) }) s.heap.objs.size #[] (.fresh 0 0 (!w.params.followText "set-order")) (fun _ => false) 0 :=
    ⟨_, 0, Heap.get?_push_size _ rfl, ⟨rfl, rfl, rfl⟩, rfl, ⟨(fun e he => by simp at he), (by simp), (fun k => by simp), rfl, rfl, List.Pairwise.nil, by
      show _ ∨ (!w.params.followText "set-order") = true
      cases w.params.followText "set-order"
      · exact .inr rfl
      · exact .inl rfl⟩⟩
  have hne : b ≠ s.heap.objs.size := Nat.ne_of_lt (Heap.lt_size ho)
  refine wpAny_bind (merge_at (s := { s with heap := s.heap.push { cls := .type "set", dict := none, data := .set #[] 0 (.fresh 0 0 (!w.params.followText "set-order")) } }) T0 (.inl rfl) (fun k hk => by cases hk) (Heap.get?_push_of_some _ ho) hex hd G sm hne (by omega) (fun s Q _ h => wpAny_pure h) fun h' d S' n' sb R' hn' hS hT => ?_)
  obtain ⟨es', t', T', m5⟩ := hT rfl
  refine wpAny_pure (hQ h' d S' n' es' t' (fun c u e => ?_) T' (by omega) (fun k => by rw [hS]; simp) m5)
  rw [sb.2 c (Nat.ne_of_lt (Heap.lt_size e))]
  exact Heap.get?_push_of_some _ e
theorem union_at {Q : Value → Shared → Prop} (R : SetR w s.heap a S n) (sm : Sm S) (hn : n ≤ 25) (R2 : SetR w s.heap b S2 n2) (sm2 : Sm S2) (hn2 : n2 ≤ 25) (hab : b ≠ a)
    (hQ : ∀ h' d S' n', (∀ c o, s.heap.get? c = some o → h'.get? c = some o) → SetR w h' s.heap.objs.size S' n' → n' ≤ 50 → (∀ k, S' k = true ↔ S k = true ∨ S2 k = true) → Q (.ref s.heap.objs.size) { s with heap := h', drawn := d }) :
    wpAny (model P w) A (binaryOp .BitOr (.ref a) (.ref b)) Q E s := by
  have hTa : s.TypeIs (.ref a) "set" := by obtain ⟨o, _, _, _, ho, hex, _⟩ := R; exact ⟨o, ho, hex.1⟩
  have hTb : s.TypeIs (.ref b) "set" := by obtain ⟨o, _, _, _, ho, hex, _⟩ := R2; exact ⟨o, ho, hex.1⟩
  refine wpAny_binaryOp_same hTa hTb F.fills_set_or F.slot_set_or (wpAny_call_entry F.slot_set_or hTa entry_set_or ?_ (F.args_set_or_2 _ _))
  rw [or_eq]
  refine wpAny_bind (wpAny_pure ?_)
  dsimp only
  refine wpAny_bind ?_
  refine wpAny_bind (anySet_set hTa ?_)
  refine anySet_set hTb ?_
  refine wp_if_neg (by simp) ?_
  refine wpAny_bind (wpAny_pure ?_)
  refine wpAny_bind ?_
  refine wpAny_bind (copy_at R sm hn fun h' d S' n' es t k T hn' hS m5 => ?_)
  refine wp_if_pos (by simpa using hab) ?_
  refine wpAny_bind (wpAny_pure ?_)
  refine wpAny_bind (wpAny_holding ?_)
  have R2' : SetR w h' b S2 n2 := R2.at fun o e => k b o e
  obtain ⟨o2, es2, ep2, t2, ho2, hex2, hd2, G2⟩ := setR_tab (s := { s with heap := h', drawn := d }) R2'
  unfold Builtin.Frozenset.updateFrom
  refine wpAny_bind (anySet_set ⟨o2, ho2, hex2.1⟩ ?_)
  refine wp_if_pos rfl ?_
  refine wpAny_bind (wpAny_pure ?_)
  unfold Builtin.Frozenset.merge setEpoch
  refine wpAny_bind ?_
  refine wpAny_bind (wpAny_setState_of (s := { s with heap := h', drawn := d }) ho2 hd2 G2.fits ?_)
  refine wpAny_pure ?_
  have hlt : b ≠ s.heap.objs.size := Nat.ne_of_lt R2.lt
  refine merge_at (s := { s with heap := h', drawn := d }) T m5 (fun j hj => sm j ((hS j).mp hj)) ho2 hex2 hd2 G2 sm2 hlt (by omega) (fun s1 Q1 e1 q1 => ?_) fun h3 d3 S3 n3 sb3 R3 hn3 hS3 _ => ?_
  · unfold Builtin.Frozenset.unchanged setEpoch
    refine wpAny_bind ?_
    refine wpAny_bind (wpAny_setState_of e1 hd2 G2.fits ?_)
    refine wpAny_pure ?_
    dsimp only
    refine wp_if_neg (by simp) ?_
    exact wpAny_pure q1
  · refine wpAny_pure ?_
    refine wpAny_pure ⟨_, rfl, by simp, ?_⟩
    refine hQ h3 d3 S3 n3 (fun c u e => ?_) R3 (by omega) fun j => by rw [hS3, hS]
    rw [sb3.2 c (Nat.ne_of_lt (Heap.lt_size e))]
    exact k c u e
end
end SU
set_option Elab.async false
set_option linter.all false
set_option maxRecDepth 100000
set_option maxHeartbeats 4000000
/-! What the program does with sets, as rules. -/
namespace SU
open PySem PySem.Spec PyProof.Rows L2
section
variable {P : Program} {w : World} {A : Around} {E : Value → Shared → Prop} {s : Shared}
theorem name_set {v : Value} {Q : String → Shared → Prop} (hT : s.TypeIs v "set") (h : ∀ n, Q n s) : wpAny (model P w) A (typeNameOfCut 200 v) Q E s := by
  unfold typeNameOfCut
  wp_walk
  exact h _
set_option maxRecDepth 100000 in
set_option maxHeartbeats 3200000 in
theorem call_set_listI {l : Addr} {items : Array Value} (ns : List Int) {Q : Value → Shared → Prop} (hh : A.handled = none) (hl : s.heap.IsList l items) (hit : IntsAre items.toList ns) (hb : ns.length + 1 < scanBound)
    (h : ∀ (h' : Heap) (tk c : Nat), SetR w h' s.heap.objs.size (fun j => decide (j ∈ ns)) c → c ≤ ns.length → (∀ b o, s.heap.get? b = some o → h'.get? b = some o) → Q (.ref s.heap.objs.size) { s with heap := h', toks := tk }) :
    wpAny (model P w) A (call (.type "set") [.ref l]) Q E s := by
  have hisz : items.size = ns.length := by
    have q := IntsAre.length hit
    rw [Array.length_toList] at q
    exact q
  obtain ⟨c, tl, hmro⟩ := F.called_set.mro
  have hmade := F.called_set.made
  have hsub := F.called_set.sub
  refine wpAny_call (codeAny_of_tree ?_)
  show wpAny _ _ (callAny (.type "set") _) _ _ _
  refine wpAny_pure ⟨Code.quiet_builtin _ (by decide +kernel), codeAny_builtin F.entry_type_call ?_⟩
  rw [Around.under_plain (weight_type_call_type "set" [.ref l] []) rfl]
  have h1 := F.called_set.notType
  have h2 := F.called_set.canCreate
  have hct := F.typeCall_set_1 (.ref l)
  unfold Builtin.«type.__call__»
  dsimp only
  with_reducible refine wp_if_neg (by rw [h1]; exact Bool.false_ne_true) ?_
  with_reducible refine wp_if_neg (by rw [h2]; exact Bool.false_ne_true) ?_
  with_reducible refine wpAny_bind (wpAny_of_eq hct ?_)
  try with_reducible refine wpAny_pure ?_
  with_reducible refine wpAny_bind (wpAny_of_eq hmro ?_)
  try with_reducible refine wpAny_pure ?_
  with_reducible refine wp_if_neg (by simp) ?_
  with_reducible refine wpAny_bind (wpAny_of_eq hmade ?_)
  try with_reducible refine wpAny_pure ?_
  dsimp only
  with_reducible refine wpAny_bind (wpAny_pure ?_)
  with_reducible refine wpAny_bind (wpAny_holding (wpAny_call ?_))

  refine codeAny_mono (code_set_led1 (.ref l) (E := E) (Q₁ := fun obj s₁ => obj = .ref s.heap.objs.size ∧ s₁ = { s with heap := s.heap.push { cls := .type "set", dict := none, data := .set #[] 0 (.fresh 0 0 (!w.params.followText "set-order")) } }) ⟨rfl, rfl⟩) fun r s₁ hr => ?_
  cases r with
  | error e => exact hr
  | ok fl =>
    cases fl with
    | ret obj =>
      obtain ⟨rfl, rfl⟩ := hr
      have hS : (s.heap.push { cls := .type "set", dict := none, data := .set #[] 0 (.fresh 0 0 (!w.params.followText "set-order")) }).get? s.heap.objs.size = some { cls := .type "set", dict := none, data := .set #[] 0 (.fresh 0 0 (!w.params.followText "set-order")) } := Heap.get?_push_size _ rfl
      have hT : Shared.TypeIs { s with heap := s.heap.push { cls := .type "set", dict := none, data := .set #[] 0 (.fresh 0 0 (!w.params.followText "set-order")) } } (.ref s.heap.objs.size) "set" := ⟨_, hS, rfl⟩
      have hli := F.called_set.init.lookup
      have hbi := F.called_set.init.bind (.ref s.heap.objs.size)
      dsimp only
      with_reducible refine wpAny_bind (wpAny_isInstance hT hsub ?_)
      with_reducible refine wp_if_neg (by simp) ?_
      with_reducible refine wpAny_bind (wpAny_holding ?_)
      with_reducible refine wpAny_callSpecial?_slot (name := Str.ofString "__init__") hT F.called_set.init (wpAny_call ?_)

      refine codeAny_mono (codeAny_call_builtin (R := wants (fun r s₂ => r = .none ∧ ∃ h' tk c, s₂ = { s with heap := h', toks := tk } ∧ SetR w h' s.heap.objs.size (fun j => decide (j ∈ ns)) c ∧ c ≤ ns.length ∧
          (∀ b o, s.heap.get? b = some o → h'.get? b = some o)) E) F.called_set.init.plain F.entry_set_init (check_set_init_1 hT ?_)) fun r₂ s₂ hr₂ => ?_
      · obtain ⟨ol, hol, hcl, nl, hdl⟩ := hl
        obtain ⟨ocls, odict, odata, oslots⟩ := ol
        simp only at hcl hdl
        subst hcl; subst hdl
        have hol' : (s.heap.push { cls := .type "set", dict := none, data := .set #[] 0 (.fresh 0 0 (!w.params.followText "set-order")) }).get? l = some { cls := .type "list", dict := odict, data := .seq items nl, slots := oslots } := Heap.get?_push_of_some _ hol
        have hsls := F.sub_list_set
        have hslf := F.sub_list_frozenset
        have hne : (Value.type "list" == Value.type "dict") = false := by decide
        have hl1 : (s.heap.push { cls := .type "set", dict := none, data := .set #[] 0 (.fresh 0 0 (!w.params.followText "set-order")) }).IsList l items := ⟨_, hol', rfl, nl, rfl⟩
        have hT2 : Shared.TypeIs { s with heap := s.heap.push { cls := .type "set", dict := none, data := .set #[] 0 (.fresh 0 0 (!w.params.followText "set-order")) } } (.ref l) "list" := ⟨_, hol', rfl⟩
        unfold Builtin.«set.__init__» noKeywords
        dsimp only
        refine wpAny_bind (wpAny_pure ?_)
        refine wpAny_bind (name_set hT fun _ => ?_)
        refine wpAny_bind (wpAny_pure ?_)
        refine wpAny_bind (wpAny_pure ?_)
        unfold setUsed
        refine wpAny_bind (wpAny_bind (wpAny_setState_of (Heap.get?_push_size _ rfl) rfl rfl (wpAny_pure ?_)))
        with_reducible refine wp_if_neg (by simp [SetTable.fill, SetTable.fresh]) ?_
        refine wpAny_bind ?_
        unfold Builtin.Frozenset.updateFrom Builtin.Frozenset.isAnySet orM
        refine wpAny_bind (wpAny_bind (wpAny_isInstance hT2 hsls (wpAny_isInstance hT2 hslf ?_)))
        with_reducible refine wp_if_neg Bool.false_ne_true ?_
        refine wpAny_bind (wpAny_typeOf hT2 ?_)
        with_reducible refine wp_if_neg (by rw [hne]; exact Bool.false_ne_true) ?_
        refine wpAny_bind ?_
        refine wpAny_pyIter_list hl1 ?_
        refine wpAny_bind (wpAny_runValue ?_)
        have hlS : l < s.heap.objs.size := Heap.lt_size hol
        have hh3 : A.in1.in1.in1.handled = none := by simp [hh]
        have hz1 : (s.heap.push { cls := .type "set", dict := none, data := .set #[] 0 (.fresh 0 0 (!w.params.followText "set-order")) }).objs.size = s.heap.objs.size + 1 := Heap.size_push ..
        have hneI : l ≠ (s.heap.push { cls := .type "set", dict := none, data := .set #[] 0 (.fresh 0 0 (!w.params.followText "set-order")) }).objs.size := by
          rw [Heap.size_push]; exact Nat.ne_of_lt (Nat.lt_succ_of_lt hlS)
        have hSf : s.heap.objs.size ∉ [(s.heap.push { cls := .type "set", dict := none, data := .set #[] 0 (.fresh 0 0 (!w.params.followText "set-order")) }).objs.size, l] := by
          rw [Heap.size_push]; simp only [List.mem_cons, List.mem_singleton, List.not_mem_nil, or_false, not_or]
          exact ⟨Nat.ne_of_lt (Nat.lt_succ_self _), Nat.ne_of_gt hlS⟩
        have hval : ∀ (i : Nat) (v : Value), items[i]? = some v → ∃ k t, ns[i]? = some k ∧ v = .int k t := fun i v hv => by
          have hi : i < ns.length := by rw [← hisz]; exact (Array.getElem?_eq_some_iff.mp hv).1
          obtain ⟨t, e⟩ := PyProof.Rows.IntsAre.int_at hit i v (by rw [Array.getElem?_toList]; exact hv)
          refine ⟨ns[i], t, List.getElem?_eq_getElem hi, ?_⟩
          rw [e, List.getD_eq_getElem?_getD, List.getElem?_eq_getElem hi] <;> rfl
        refine set_update_ints ((Walks.list hh3 _ l hneI items).toS) s.heap.objs.size
          hSf ns hisz hb hval (items.size - 0) 0 _ (by omega) (Nat.zero_le _)
          ⟨⟨_, Heap.get?_push_size _ rfl, rfl, rfl⟩, (hl1.push _)⟩ ?hS0 ?hR
        case hS0 =>
          have hget : ((s.heap.push { cls := .type "set", dict := none, data := .set #[] 0 (.fresh 0 0 (!w.params.followText "set-order")) }).push { cls := .type "list_iterator", data := .fields #[.ref l, .int 0 0] }).get? s.heap.objs.size
              = some { cls := .type "set", dict := none, data := .set #[] 0 (.fresh 0 0 (!w.params.followText "set-order")) } := Heap.get?_push_of_some _ hS
          exact ⟨0, Nat.le_refl 0, setR_new_at hget⟩
        case hR =>
          intro s' c' hm hc' hS'
          obtain ⟨h', g2, d', tk', os'⟩ := s'
          have eg : g2 = s.gens := hm.gens
          have ed : d' = s.drawn := hm.drawn
          have eo : os' = s.os := hm.os
          subst eg; subst ed; subst eo
          show wpAny _ _ _ _ _ _
          refine wpAny_pure ?_
          show wpAny _ _ (ret Value.none) _ _ _
          rw [hisz] at hc'
          refine wpAny_pure ⟨rfl, h', tk', c', rfl, hS', hc', fun b o e => ?_⟩
          have hb0 : b < s.heap.objs.size := Heap.lt_size e
          have hb1 : b ≠ s.heap.objs.size := Nat.ne_of_lt hb0
          have hb2 : b ≠ (s.heap.push { cls := .type "set", dict := none, data := .set #[] 0 (.fresh 0 0 (!w.params.followText "set-order")) }).objs.size := by
            rw [Heap.size_push]; exact Nat.ne_of_lt (Nat.lt_succ_of_lt hb0)
          exact hm.heap b o (by simp only [List.mem_cons, List.mem_singleton, List.not_mem_nil, or_false, not_or]; exact ⟨hb1, hb2⟩) (Heap.get?_push_of_some _ (Heap.get?_push_of_some _ e))

      · cases r₂ with
        | error e => exact hr₂
        | ok fl₂ =>
          cases fl₂ with
          | ret r =>
            obtain ⟨rfl, h', tk, c', rfl, hS', hc', hk'⟩ := hr₂
            dsimp only
            with_reducible refine wp_if_neg (by simp) ?_
            refine wpAny_pure ?_
            exact h _ _ _ hS' hc' hk'
          | _ => exact hr₂.elim
    | _ => exact hr.elim

end
end SU
set_option Elab.async false
set_option linter.all false
set_option maxRecDepth 100000
set_option maxHeartbeats 4000000
namespace L2
open PySem PySem.Spec PyProof.Rows SU
section
variable {X : Cx}
/-- what a set of ints holds, told by a list -/
theorem setR_list {w : World} {h : Heap} {a : Addr} {S : Int → Bool} {n : Nat} (R : SetR w h a S n) : ∃ ds : List Int, ds.Nodup ∧ ds.length = n ∧ ∀ k, S k = true ↔ k ∈ ds := by
  obtain ⟨o, es, ep, t, ho, hex, hd, g, nd, hm, hb, hf, hn, hr, hl⟩ := R
  exact ⟨es.toList.map keyOf, nd, by rw [List.length_map, Array.length_toList]; exact hn, hm⟩
/-- set(xs), xs a list of ints -/
def rSetOf (w : World) (K : PySem.W.Frag) : List V → Hp → VK → Prop := fun vs H Q => ∃ (l : Addr) (ns : List Int), vs = [V.ref l] ∧ SqL K H l (ns.map V.int) ∧ ns.length ≤ 1000 ∧
  ∀ (p : Addr) (c : Nat), c ≤ ns.length → H p = none → Q (.ref p) (upd H p (SetO w p (fun j => decide (j ∈ ns)) c))
theorem call_setL (hc : X.calm = true) : CallR X (.type "set") (rSetOf X.w X.K) := by
  intro pins s σ H vs us Q I r h
  obtain ⟨l, ns, rfl, hq, h1, q⟩ := h
  rw [Vals.ref1 r]
  obtain ⟨its, rv, pl, hz⟩ := I.list hq
  refine call_set_listI ns (I.ok.hd hc) pl.isList (by simpa using rv.ints) (by unfold scanBound; omega) fun h' tk c R hcn hk => ?_
  exact ⟨.ref s.heap.objs.size, _, I.laid (t' := tk) hk (Nat.le_refl _) (setO_new R), rfl, q _ c hcn (I.hok.fresh (Nat.le_refl _))⟩
/-- a | b, two sets of ints below 32 -/
def rSetOr (w : World) : R2 := fun x y H Q => ∃ (a b : Addr) (S S2 : Int → Bool) (n n2 : Nat), x = V.ref a ∧ y = V.ref b ∧ H a = some (SetO w a S n) ∧ H b = some (SetO w b S2 n2) ∧ b ≠ a ∧ Sm S ∧ Sm S2 ∧ n ≤ 25 ∧ n2 ≤ 25 ∧
  ∀ (p : Addr) (S' : Int → Bool) (n' : Nat), H p = none → n' ≤ 50 → (∀ k, S' k = true ↔ S k = true ∨ S2 k = true) → Q (.ref p) (upd H p (SetO w p S' n'))
theorem op_setor : OpR X (binaryOp .BitOr) (rSetOr X.w) := by
  intro pins s σ H x y v u Q I rx ry h
  obtain ⟨a, b, S, S2, n, n2, rfl, rfl, ha, hb, hab, sm, sm2, hn, hn2, q⟩ := h
  cases rx
  cases ry
  refine union_at (setO_get I ha) sm hn (setO_get I hb) sm2 hn2 hab fun h' d S' n' hk R hn' hS => ?_
  have hp : H s.heap.objs.size = none := I.hok.fresh (Nat.le_refl _)
  have J : Inv X pins σ (upd H s.heap.objs.size (SetO X.w s.heap.objs.size S' n')) { s with heap := h', gens := s.gens, drawn := d, toks := s.toks } :=
    I.call (ch := []) (Un.laid hk (Nat.le_refl _) hp) (I.hok.laid hk (Nat.le_refl _) (setO_new R)) I.bare (fun _ z => nomatch z)
  exact ⟨.ref _, _, J, rfl, q _ S' n' hp hn' hS⟩
/-- len(s), s a set of ints -/
def rLenSetS (w : World) : List V → Hp → VK → Prop := fun vs H Q => ∃ (a : Addr) (S : Int → Bool) (n : Nat), vs = [V.ref a] ∧ H a = some (SetO w a S n) ∧ ∀ ds : List Int, ds.Nodup → ds.length = n → (∀ k, S k = true ↔ k ∈ ds) → Q (.int (n : Nat)) H
theorem call_lenS : CallR X (.builtin "len") (rLenSetS X.w) := by
  intro pins s σ H vs us Q I r h
  obtain ⟨a, S, n, rfl, ha, q⟩ := h
  rw [Vals.ref1 r]
  have R := setO_get I ha
  obtain ⟨ds, d1, d2, d3⟩ := setR_list R
  obtain ⟨o, es, ep, t, ho, hex, hd, g, nd, hm, hb, hf, hn, hr, hl⟩ := R
  refine call_len_set ho hex hd hf (by unfold scanBound at hb; omega) ⟨.int (n : Nat), H, I.tok _, ⟨_, by rw [hn]⟩, q ds d1 d2 d3⟩
end
end L2
set_option Elab.async false
set_option linter.all false
set_option maxRecDepth 100000
set_option maxHeartbeats 4000000
namespace L2
open PySem PySem.Spec PyProof.Rows
/-- {k: v}, k a tuple: the dict stands empty while they are made -/
def tDisp1T (tk tv : TE) : TE := fun σ H Q => ∀ p, H p = none → tk σ (upd H p (.dT [])) fun y H1 => tv σ H1 fun v H2 => ∃ k b, H2 p = some (.dT []) ∧ y = .ref b ∧ H2 b = some (.tup (k.map kV)) ∧ Q (.ref p) (upd H2 p (.dT [(k, v)]))
theorem pe_dispT {X : Cx} {pos : Pos} {k v : Expr} {tk tv : TE} (hu : X.A.units + 1 < cLine) (hk : PE X k tk) (hv : PE X v tv) : PE X (.Dict [some k] [v] pos) (tDisp1T tk tv) := by
  refine ⟨fun pins s σ H Q I q => ?_⟩
  have hn := I.hok.fresh (Nat.le_refl s.heap.objs.size)
  have I1 := I.laid (a := s.heap.objs.size) (o := .dT []) (h' := s.heap.push { cls := .type "dict", data := .dict #[] }) (t' := s.toks) (fun _ _ q => Heap.get?_push_of_some _ q) (Nat.le_refl _) (dt_empty s.heap I.big)
  have hsh := zip_pairTrees [some k] [v] X.env pos rfl rfl
  rw [arm_eval_Dict, hsh, dictDisplay_pairs _ (by simp [pairTrees]) (by simp [pairTrees])]
  refine wpAny_bind (wpAny_standAt (wpAny_bind ?_))
  unfold subDict
  refine wpAny_bind (wpAny_alloc ?_)
  refine wpAny_bind (wpAny_holding ?_)
  rw [if_pos (by simp [pairTrees])]
  refine wpAny_bind (pairTrees_cons_walk (thn (hk.run pins _ σ _ _ I1 (q _ hn)) fun u s1 ⟨y, H1, I2, ry, q1⟩ => thn (hv.run pins s1 σ H1 _ I2 q1) fun r s2 ⟨vv, H2, I3, rv, q2⟩ => pairTrees_nil_walk ?_))
  obtain ⟨kk, b, e, rfl, eb, q3⟩ := q2
  cases (show u = Value.ref b from ry)
  obtain ⟨z, hd, xs, rel, dd⟩ := dt_of I3.hok e
  have hx : xs = [] := by cases rel; rfl
  subst hx
  refine wpAny_holding (wpAny_bind ?_)
  rw [List.forIn_cons]
  refine wpAny_bind (wpAny_bind (wpAny_dictSet_heap (hsz := Nat.zero_le _) (show X.A.units < cLine by omega) (key_of I3.hok eb) dd fun h' dd' hs => wpAny_pure ?_))
  dsimp only
  rw [List.forIn_nil]
  refine wpAny_pure (wpAny_pure (wpAny_pure (wpAny_pure ?_)))
  obtain ⟨o', es, ep, hq, h2, h3, h4, _, h5⟩ := dd'
  refine ⟨.ref s.heap.objs.size, _, d_write (ob := .dT [(kk, vv)]) I3 (by rw [e]; exact True.intro) hs ⟨_, hq⟩ ⟨by show 1 ≤ sizeLine; decide, hd, _, (rel.put kk eb rv).keeps fun c ys ec => ?_, o', es, ep, hq, h2, h3, h4, h5⟩, rfl, q3⟩
  rw [upd_ne (ne_of ec e (fun z => nomatch z))]
  exact ec
end L2
namespace L2
open PySem PySem.Spec PyProof.Rows
/-- a list against an empty one -/
def rEqNil : R2 := fun x y H Q => ∃ a b xs, x = V.ref a ∧ y = V.ref b ∧ H a = some (.lst xs) ∧ H b = some (.lst []) ∧ Q (.bl xs.isEmpty) H
def rNeNil : R2 := fun x y H Q => ∃ a b xs, x = V.ref a ∧ y = V.ref b ∧ H a = some (.lst xs) ∧ H b = some (.lst []) ∧ Q (.bl (!xs.isEmpty)) H
section
variable {X : Cx}
theorem op_eqNil (hu : X.A.units < cLine) : OpR X (compareOp .Eq) rEqNil := by
  intro pins s σ H x y v u Q I rx ry h
  obtain ⟨a, b, xs, rfl, rfl, ha, hb, q⟩ := h
  cases rx
  cases ry
  obtain ⟨z, its, n, r, hl, e⟩ := I.lstM ha
  obtain ⟨z2, its2, n2, r2, hl2, e2⟩ := I.lstM hb
  have h0 : its2 = [] := List.eq_nil_of_length_eq_zero hl2.symm
  subst h0
  show wpAny _ _ (richCompare .Eq (.ref a) (.ref b)) _ _ _
  cases xs with
  | nil =>
    have h1 : its = [] := List.eq_nil_of_length_eq_zero hl.symm
    subst h1
    exact wpAny_richCompare_same_room (op := .Eq) ⟨_, e, rfl⟩ ⟨_, e2, rfl⟩ PySem.F.slot_list_eq (call_meets PySem.F.slot_list_eq ⟨_, e, rfl⟩ PySem.F.entry_list_eq (PySem.F.args_list_eq_2 _ _) (SeqAt.list_eqAt a b #[] #[] n n2 none none #[] #[] rfl fun _ => true)
      ⟨e, e2, fun j h1 _ => absurd h1 (Nat.not_lt_zero j), (fun x => nomatch x), ⟨.bl true, H, I, rfl, q⟩⟩) hu
  | cons x xs =>
    have hne : (its.toArray.size != (#[] : Array Value).size) = true := by
      rw [List.size_toArray, ← hl]; rfl
    exact wpAny_richCompare_same_room (op := .Eq) ⟨_, e, rfl⟩ ⟨_, e2, rfl⟩ PySem.F.slot_list_eq (call_meets PySem.F.slot_list_eq ⟨_, e, rfl⟩ PySem.F.entry_list_eq (PySem.F.args_list_eq_2 _ _) (SeqAt.list_eq_lengthsAt a b its.toArray #[] n n2 none none #[] #[] hne)
      ⟨e, e2, (fun x => nomatch x), ⟨.bl false, H, I, rfl, q⟩⟩) hu
theorem op_neNil (hu : X.A.units < cLine) : OpR X (compareOp .NotEq) rNeNil := by
  intro pins s σ H x y v u Q I rx ry h
  obtain ⟨a, b, xs, rfl, rfl, ha, hb, q⟩ := h
  cases rx
  cases ry
  obtain ⟨z, its, n, r, hl, e⟩ := I.lstM ha
  obtain ⟨z2, its2, n2, r2, hl2, e2⟩ := I.lstM hb
  have h0 : its2 = [] := List.eq_nil_of_length_eq_zero hl2.symm
  subst h0
  show wpAny _ _ (richCompare .NotEq (.ref a) (.ref b)) _ _ _
  cases xs with
  | nil =>
    have h1 : its = [] := List.eq_nil_of_length_eq_zero hl.symm
    subst h1
    exact wpAny_richCompare_same_room (op := .NotEq) ⟨_, e, rfl⟩ ⟨_, e2, rfl⟩ PySem.F.slot_list_ne (call_meets PySem.F.slot_list_ne ⟨_, e, rfl⟩ PySem.F.entry_list_ne (PySem.F.args_list_ne_2 _ _) (SeqAt.list_neAt a b #[] #[] n n2 none none #[] #[] rfl fun _ => true)
      ⟨e, e2, fun j h1 _ => absurd h1 (Nat.not_lt_zero j), (fun x => nomatch x), ⟨.bl false, H, I, rfl, q⟩⟩) hu
  | cons x xs =>
    have hne : (its.toArray.size != (#[] : Array Value).size) = true := by
      rw [List.size_toArray, ← hl]; rfl
    exact wpAny_richCompare_same_room (op := .NotEq) ⟨_, e, rfl⟩ ⟨_, e2, rfl⟩ PySem.F.slot_list_ne (call_meets PySem.F.slot_list_ne ⟨_, e, rfl⟩ PySem.F.entry_list_ne (PySem.F.args_list_ne_2 _ _) (SeqAt.list_ne_lengthsAt a b its.toArray #[] n n2 none none #[] #[] hne)
      ⟨e, e2, (fun x => nomatch x), ⟨.bl true, H, I, rfl, q⟩⟩) hu
end
end L2
set_option Elab.async false
set_option linter.all false
set_option maxRecDepth 100000
set_option maxHeartbeats 4000000
/-! Refused: its text, how one is made and raised. -/
namespace PySem
namespace RfX
open PySem.W PySem.Calls PyProof.Rows PySem.HandSPX
/-! ### the text of __init__ -/
def iA (p1 p2 : Pos) : Arguments := { posonlyargs := [], args := [{ arg := "self", annotation := none, pos := p1 }, { arg := "number", annotation := none, pos := p2 }], vararg := none, kwonlyargs := [], kw_defaults := [], kwarg := none, defaults := [] }
def iB (q1 q2 q3 q4 : Pos) : List Stmt := [.Assign [.Attribute (.Name "self" q1) "number" q2] (.Name "number" q3) q4]
def iS : Scope := { kind := .function, names := [(PySem.Str.ofString "self", .local), (PySem.Str.ofString "number", .local)], isGenerator := false, isCoroutine := false, more := [] }
/-- what the written part says of Low, at C, and of its __init__, at fI -/
structure RfTxt (K : Frag) (mg : Str → Option Value) (C fI : Addr) : Prop where
  gC : mg "Refused" = some (.ref C)
  cls : ∃ nm q N bs bm sn sub ab col dd k0 k1 k2 k3 k5, K.lookup C = some (excClassObj nm q C N bs bm true sn sub ab col dd k0 k1 k2 k3 k5 "ValueError.__new__") ∧ refsVE bm = true
  sa : findIn K (.ref C) "__setattr__" = some (some (.builtin "object.__setattr__"))
  ga : findIn K (.ref C) "__getattribute__" = some (some (.builtin "BaseException.__getattribute__"))
  gg : findIn K (.ref C) "__getattr__" = some none
  noN : findIn K (.ref C) "number" = some none
  iC : findIn K (.ref C) "__init__" = some (some (.ref fI))
  tC : typeIn K (.ref fI) = some (.type "function")
  kC : keepIn K (.ref C) = true
  exC : subIn K (.ref C) (.type "BaseException") = some true
  tyC : typeIn K (.ref C) = some (.type "type")
  hdC : hasDictIn K C = true
  te : exmOne K (.ref C) (.ref C) = some true
  fn : ∃ (oc : Value) (od : Option Addr) (doc pm : Value) (an : Option Addr) (cdv ct : Value) (osl : Array (Option Value)) (p1 p2 q1 q2 q3 q4 : Pos),
    K.lookup fI = some ⟨oc, od, .func (fnOf "__init__" "Refused.__init__" (iA p1 p2) (iB q1 q2 q3 q4) iS .none .none doc pm an cdv ct), osl⟩ ∧ codeIn K cdv "Refused.__init__" = true
theorem one_size (v : Value) : [v].length ≤ sizeLine := by
  rw [sizeLine_eq]
  exact (by decide : 1 ≤ 16777216)
theorem kept_but {K : Frag} {h h' : Heap} {x : Addr} (X : K.In h) (hx : K.lookup x = none) (k : ∀ b o, b ≠ x → h.get? b = some o → h'.get? b = some o) : K.In h' := fun a o e =>
  k a o (fun z => by rw [z, hx] at e; cases e) (X a o e)
theorem ldC {M : Model} {s : Shared} {name : Str} {scope : Scope} {L a : Addr} {cd : Value} {m : Str → Option Value} {x : Str} {pos : Pos} {v : Value} {Q : Value → Shared → Prop} {A : Around} {E : Value → Shared → Prop} (hn : s.heap.Ns L m) (hv : m x = some v) (h : Q v s)
    (hk : scope.kind = .function := by rfl) (hl : (envOfC name scope L a cd).kindOf x = some .local := by rfl) (hd : (x == ("__debug__" : Str)) = false := by decide) :
    wpAny M A (eval (.Name x pos) (envOfC name scope L a cd)) Q E s := wpAny_Name (wpAny_loadName_local hk hl hn hv h) hd
/-- what __init__ leaves of a fresh exception at x -/
structure InitEnd (h h' : Heap) (x C dx t1 : Addr) (v : Value) : Prop where
  keep : ∀ b o, b ≠ x → h.get? b = some o → h'.get? b = some o
  obj : h'.get? x = some { cls := .ref C, dict := some dx, data := .fields #[.ref t1, .none, .none, .none, .bool false, .none] }
  dbig : h.objs.size ≤ dx
  dne : dx ≠ x
  ns : h'.Ns1 dx (fun y => if y = "number" then some v else none)
/-- a made Low -/
structure OwnMade (h h' : Heap) (e C d : Addr) (v : Value) : Prop where
  keep : ∀ b o, h.get? b = some o → h'.get? b = some o
  new : h.objs.size ≤ e
  obj : ∃ oe vs, h'.get? e = some oe ∧ oe.cls = .ref C ∧ oe.dict = some d ∧ oe.data = .fields vs ∧ vs[1]? = some .none
  dbig : h.objs.size ≤ d
  dne : d ≠ e
  ns : h'.Ns1 d (fun y => if y = "number" then some v else none)
section
variable {prog : Program} {w : World} {A : Around} {E : Value → Shared → Prop} {R : Result → Shared → Prop} {s : Shared} {K : Frag} {mg : Str → Option Value} {C fI : Addr}
theorem rf_init (T : RfTxt K mg C fI) {x t0 : Addr} {v : Value} (X : K.In s.heap) (hlim : s.heap.NoLimit) (hx : s.heap.get? x = some (excO C t0)) (hnx : K.lookup x = none) (hroom : A.depth < recursionLimit)
    (hq : ∀ h' tk dx, InitEnd s.heap h' x C dx t0 v → R (.ok (.ret .none)) { s with heap := h', toks := tk }) :
    codeAny (model prog w) A (.call (.ref fI) ⟨[.ref x, v], []⟩) R s := by
  obtain ⟨oc, od, doc, pm, an, cdv, ct, osl, p1, p2, q1, q2, q3, q4, ho, hcd⟩ := T.fn
  obtain ⟨nm, q, N, bs, bm, sn, sub, ab, col, dd, k0, k1, k2, k3, k5, hC, hbm⟩ := T.cls
  have hcl : clsIn K C = some { name := nm, bases := bs, mro := .ref C :: bm, ns := N, qualname := q, hasDict := true, slotNames := sn, subclasses := sub, abstract := ab, collection := col, hasDel := false } := by unfold clsIn; rw [hC] <;> rfl
  refine Att.call_fn (binds := [("self", .ref x), ("number", v)]) X hlim ho hcd hroom (BindsTo.of_eq (by first | rfl | with_unfolding_all rfl)) (by first | rfl | decide | with_unfolding_all rfl) (fun s₁ IC => ?_) rfl rfl rfl
  obtain ⟨h₁, tk₁, rfl⟩ := IC.toInCall.same
  have k : ∀ b o, s.heap.get? b = some o → h₁.get? b = some o := IC.toInCall.keep
  have hn := IC.toInCall.ns
  have hxL : s.heap.objs.size ≠ x := Nat.ne_of_gt (Heap.lt_size hx)
  have X₁ : K.In h₁ := X.keeps k
  have hx₁ := k _ _ hx
  -- self.by = by
  show wpAny _ _ (execs _ _) _ _ _
  refine wpAny_execs_cons (plainObj_wpAny_Assign_Attribute ?_)
  refine ldC (v := v) hn (by first | rfl | with_unfolding_all rfl | kernel_rfl) (ldC (v := .ref x) hn (by first | rfl | with_unfolding_all rfl | kernel_rfl) ?_)
  refine set_plain X₁ (ox := excO C t0) (od := none) ⟨hx₁, rfl, rfl, trivial⟩ T.sa ?_
  refine exc_osa X₁ hx₁ hcl (show refsVE (.ref C :: bm) = true from hbm) rfl T.noN (fun h₃ tk₃ dx k₃ dn dne hx₃ hn₃ => ?_)
  show wpAny _ _ (execs _ _) _ _ _
  have z : s.heap.objs.size < h₁.objs.size := hn.lt
  exact wpAny_execs_nil (hq h₃ tk₃ dx ⟨fun b o hb e => k₃ b o hb (k b o e), hx₃, Nat.le_of_lt (Nat.lt_of_lt_of_le z dn), dne, hn₃⟩)
theorem rf_made (T : RfTxt K mg C fI) {v : Value} (X : K.In s.heap) (hlim : s.heap.NoLimit) (hroom : A.depth + 1 < recursionLimit)
    (hq : ∀ h' tk e d, OwnMade s.heap h' e C d v → R (.ok (.ret (.ref e))) { s with heap := h', toks := tk }) :
    codeAny (model prog w) A (.call (.ref C) ⟨[v], []⟩) R s := by
  obtain ⟨nm, q, N, bs, bm, sn, sub, ab, col, dd, k0, k1, k2, k3, k5, hC, hbm⟩ := T.cls
  obtain ⟨hp, g, dr, tk, os⟩ := s
  have k : ∀ b o, hp.get? b = some o → ((hp.push (kdv_tup [v])).push (excO C hp.objs.size)).get? b = some o := fun b o e => Heap.get?_push_of_some _ (Heap.get?_push_of_some _ e)
  have hget : ((hp.push (kdv_tup [v])).push (excO C hp.objs.size)).get? (hp.objs.size + 1) = some (excO C hp.objs.size) := by heap_get
  have hnx : K.lookup (hp.objs.size + 1) = none := by
    cases e : K.lookup (hp.objs.size + 1) with
    | none => rfl
    | some o =>
      have z : hp.get? (hp.objs.size + 1) = some o := X _ _ e
      exact absurd (Nat.lt_of_succ_lt (Heap.lt_size z)) (Nat.lt_irrefl _)
  refine call_own F.excBase_ValueError (fun X => refsVE_contains X bm hbm) (X _ _ hC) (looks_findIn X T.iC) (fun self => bind_fn X self T.tC) (one_size v) ?_
  refine rf_init (s := ⟨(hp.push (kdv_tup [v])).push (excO C hp.objs.size), g, dr, tk, os⟩) T (X.keeps k) (hlim.keeps k) hget hnx ?_ fun h' tk' dx ⟨k', hx, dn, dne, hns⟩ => ?_
  · show A.depth + 1 < recursionLimit
    exact hroom
  · have old : ∀ b o, hp.get? b = some o → h'.get? b = some o := fun b o e => k' b o (Nat.ne_of_lt (Nat.lt_succ_of_lt (Heap.lt_size e))) (k b o e)
    have z : hp.objs.size + 1 + 1 ≤ dx := by
      first
        | (simpa only [Heap.size_push] using dn)
        | exact dn
        | (have q := dn; rw [Heap.size_push, Heap.size_push] at q; exact q)
    exact ⟨rfl, hq h' tk' (hp.objs.size + 1) dx ⟨old, Nat.le_succ _, ⟨_, _, hx, rfl, rfl, rfl, rfl⟩, Nat.le_trans (Nat.le_trans (Nat.le_succ _) (Nat.le_succ _)) z, dne, hns⟩⟩
end
end RfX
end PySem
namespace L2
open PySem PySem.Spec PyProof.Rows
theorem relO_rf {v : V} {v' : Value} (r : RelV v v') (f : Str) : RelO (List.lookup f [(("number" : Str), v)]) (if f = "number" then some v' else none) := by
  by_cases hw : f = "number"
  · subst hw
    rw [if_pos rfl]
    have q : List.lookup ("number" : Str) [(("number" : Str), v)] = some v := by simp [List.lookup]
    rw [q]
    exact r
  · rw [if_neg hw]
    have qw : (f == ("number" : Str)) = false := by simpa using hw
    have q2 : List.lookup f [(("number" : Str), v)] = none := by simp [List.lookup, qw]
    rw [q2]
    trivial
section
variable {X : Cx} {C fI : Addr}
/-- Low(e) -/
def tMkRf (C : Addr) (ta : TA) : St → Hp → XK → Prop := fun σ H Q => ta σ H fun vs H1 => ∃ v, vs = [v] ∧ ∀ d, H1 d = none → Q (.ref C) (some d) (upd H1 d (.xd [(("number" : Str), v)]))
theorem pmk_rf {a : Expr} {ta : TA} {p pos : Pos} {k : Nat} (T : PySem.RfX.RfTxt X.K X.mg C fI) (hr : Room k X.A) (ha : PA X [a] ta) (hg : Gl X "Refused" := by rfl)
    (he : starEach (a :: []) X.env = (false, eval a X.env) :: starEach [] X.env := by rfl) (hpl : (backTo pos (starEach [] X.env)).any (·.1) = false := by rfl) :
    PMk X (.Call (.Name "Refused" p) [a] [] pos) (tMkRf C ta) := by
  intro pins s σ H Q I h
  refine wpAny_Call_Name_kw (ld_glob I hg T.gC ?_)
  refine PySem.W.callWith_K (h₀ := X.base) I.ok.mod.kin T.kC (thn (ha.run pos pins s σ H _ I h) fun us s1 hh => ?_) he hpl
  obtain ⟨vs, H1, I1, r1, v, ev, q1⟩ := hh
  subst ev
  refine ⟨I1.kIn, ?_⟩
  cases r1 with
  | cons rv rn =>
    rename_i v' us'
    cases rn
    show wpAny _ _ (call (.ref C) [v']) _ _ _
    have hlim := I1.nolimit
    obtain ⟨hp, g, dr, tk, os⟩ := s1
    refine wpAny_call (PySem.RfX.rf_made T I1.kIn hlim (by have := hr.dp; omega) fun h' tk' e d M => ?_)
    show MkP X pins σ Q (.ref e) ⟨h', g, dr, tk', os⟩
    obtain ⟨oe, fv, hoe, hc, hd, hdat, h1⟩ := M.obj
    have hns := M.ns
    obtain ⟨G', g1, g2⟩ := restrict h' fun b => decide (b ≠ e)
    have gk : ∀ b, b ≠ e → G'.get? b = h'.get? b := fun b hb => g1 b (decide_eq_true hb)
    have ge : G'.get? e = none := g2 e (by simp)
    have old : ∀ b o, hp.get? b = some o → G'.get? b = some o := fun b o q => (gk b (Nat.ne_of_lt (Nat.lt_of_lt_of_le (Heap.lt_size q) M.new))).trans (M.keep b o q)
    have ob : ObjOk X.prog X.w (upd H1 d (.xd [(("number" : Str), v)])) G' d (.xd [(("number" : Str), v)]) :=
      ⟨_, hns.at (fun o q => (gk d M.dne).trans q), fun f => relO_rf rv f⟩
    have J : Inv X pins σ (upd H1 d (.xd [(("number" : Str), v)])) ⟨G', g, dr, tk', os⟩ := I1.laid (t' := tk') old M.dbig ob
    refine ⟨e, oe, fv, ⟨G', g, dr, tk', os⟩, _, .ref C, some d, rfl, J, fun b o q => ?_, ge, hoe, ⟨hc, hd⟩, hdat, h1, ?_, rfl, I1.bare, raises_own T.exC T.tyC, q1 d (I1.hok.fresh M.dbig)⟩
    · by_cases hb : b = e
      · have q' : G'.get? b = some o := q
        rw [hb, ge] at q'; cases q'
      · exact (gk b hb).symm.trans q
    · rw [upd_ne (Ne.symm M.dne)]
      exact I1.hok.fresh M.new
/-- raise Low(e) -/
def tRaiseRf (C : Addr) (W : WX) (ta : TA) : TS := fun _ σ H => tMkRf C ta σ H fun cls d H' => W cls d σ H'
theorem ps_raiseRf {a : Expr} {ta : TA} {W : WX} {p pos pos2 : Pos} {k : Nat} (hc : X.calm = true) (T : PySem.RfX.RfTxt X.K X.mg C fI) (hr : Room k X.A) (tk : Takes X W) (ha : PA X [a] ta) (hg : Gl X "Refused" := by rfl)
    (he : starEach (a :: []) X.env = (false, eval a X.env) :: starEach [] X.env := by rfl) (hpl : (backTo pos (starEach [] X.env)).any (·.1) = false := by rfl) :
    PS X (.Raise (some (.Call (.Name "Refused" p) [a] [] pos)) none pos2) (tRaiseRf C W ta) := ps_raise hc tk (pmk_rf T hr ha hg he hpl)
theorem passX {X : Cx} {E : XK} {E₁ : Value → Shared → Prop} (hs : X.stack = X.env :: X.outer) (hf : X.env.frame = some X.env.locals) (hex : X.ex = [])
    (hx : X.xe = fun e s' => wpAny (model X.prog X.w) X.A (leaving X.env e) (fun _ s'' => L2.CX X.prog X.w X.outer X.H_0 X.s_0 E e s'') E₁ s') : Passes (L2.CX X.prog X.w) X E :=
  passes_call (W := fun cls d _ H => E cls d H) (takes_of hs hf hex hx) fun _ _ _ _ h => h
end
end L2
set_option Elab.async false
set_option linter.all false
set_option maxRecDepth 100000
set_option maxHeartbeats 4000000
namespace TW
open PySem PySem.Spec PyProof.Rows L2
open Vaglrc (Sym Rule Grammar)
open TR (symF PathF tbl)
section
variable {P : Program} {w : World} {K : PySem.W.Frag} {mg : Str → Option Value} {base : Heap}
/-! ### symbol_ends -/
/-- the symbol's nonterminal stands in the table -/
def SymIn (m : Nat) : Sym → Prop
  | .non k => k < m
  | .range _ _ => True
def sp_symbol_ends : Sp := fun vs H Q _ => ∃ (e sg sy : V) (n m : Nat) (f : Nat → Nat → List Nat) (x : List Nat) (s : Sym) (i : Nat), vs = [e, sg, sy, vN i] ∧ EndsV H e n m f ∧ NatsV H sg x ∧ SymV H sy s ∧ SymIn m s ∧ i ≤ n ∧
  Ret H Q fun v H' => NatsV H' v (symF x f s i)
abbrev s_symbol_ends : Stmt := topS 15
/-- 0 ends, 1 signs, 2 symbol, 3 at, 4 kind, 5 low, 6 high -/
theorem sc_symbol_ends : FnScope ["ends", "signs", "symbol", "at", "kind", "low", "high"] ["ends", "signs", "symbol", "at"] (defScope s_symbol_ends) := ⟨rfl, rfl, rfl, by decide +kernel, rfl, by decide +kernel, by decide +kernel⟩
theorem ok_symbol_ends {f : Addr} {fd : FuncData} (F : Fun K "symbol_ends" "symbol_ends" s_symbol_ends f fd) (T : Glob mg) : FnOk P w K mg base CX0 1 f fd ["ends", "signs", "symbol", "at"] sp_symbol_ends := by
  refine F.ok sc_symbol_ends (fun vs H Q E h => ?_) (fun cdv A outer s H vs Q E hr h => ?_)
  · obtain ⟨_, _, _, _, _, _, _, _, _, rfl, _⟩ := h
    rfl
  · obtain ⟨_, _, _, n, m, f, x, sm, i, rfl, ⟨el, rows, rfl, he, hrows⟩, ⟨xl, rfl, hx⟩, ⟨sl, rfl, hs⟩, hin, hi, ret⟩ := h
    refine ⟨_, (pss_cons (ps_asg (pv 2) (pg_tup rfl (pgs_cons (pg_name (i := 4) sc_symbol_ends.nd rfl (Or.inl rfl)) (pgs_cons (pg_name (i := 5) sc_symbol_ends.nd rfl (Or.inl rfl)) (pgs_cons (pg_name (i := 6) sc_symbol_ends.nd rfl (Or.inl rfl)) pgs_nil)))))
    (pss_cons (ps_if (pt_cmpR op_eq (pv 4) (pe_gi T.NONTERMINAL) (nomark _))
    (pss_one (ps_ret (pe_ix ix_list (pe_ix ix_list (pv 0) (pv 3) (fun _ _ => rfl)) (pv 5) (fun _ _ => rfl))))
    pss_nil)
    (pss_cons (ps_if (PW.pt (pw_and (pt_cmpR op_lt (pv 3) (pe_callB call_len_seq (by rfl) T.len (by decide +kernel) (pa_cons (pv 1) pa_nil)) (nomark _)) (pw_and1 (pt_chain op_le op_le (pv 5) (pe_ix ix_list (pv 1) (pv 3) (fun _ _ => rfl)) (pv 6)))))
    (pss_one (ps_ret (pe_lst (pa_cons (pe_op op_add (pv 3) pe_int) pa_nil))))
    pss_nil)
    (pss_one (ps_ret (pe_lst pa_nil)))))), ?_⟩
    refine ⟨_, rfl, sl, _, rfl, SqT.of hs, rfl, _, _, rfl, _, _, rfl, _, _, rfl, rfl, ?_⟩
    refine ⟨_, rfl, rfl, _, rfl, ?_⟩
    cases sm with
    | non k =>
      refine iteT ?_
      have hk : k < m := hin
      obtain ⟨rv, hr1, l, ls, erow, hrow, hpr⟩ := Paired.at hrows (range_get (show i < n + 1 by omega))
      obtain ⟨lv, hl1, ll, elv, hll⟩ := Paired.at hpr (show ((List.range m).map (f i))[k]? = some (f i k) by rw [List.getElem?_map, range_get hk]; rfl)
      subst erow elv
      refine ⟨_, rfl, _, rfl, el, rows, _, _, rfl, rfl, SqL.of he, atI_nat hr1, _, rfl, l, ls, _, _, rfl, rfl, SqL.of hrow, atI_nat hl1, ?_⟩
      exact ret _ _ (Ex.refl H) ⟨ll, rfl, hll⟩
    | range lo hi =>
      refine iteF ?_
      have hret : ∀ ns : List Nat, symF x f (.range lo hi) i = ns → ∀ p, H p = none → Q (.ref p) (upd H p (.lst (ns.map vN))) := fun ns e p hp =>
        ret _ _ (Ex.new hp) ⟨p, rfl, by rw [e]; exact upd_same⟩
      have hno : symF x f (.range lo hi) i = [] → tRet (tLst tNil) { nx := fun _ H' => Q .non H', rt := Q } [some (.ref el), some (.ref xl), some (.ref sl), some (vN i), some (.int 1), some (.int lo), some (.int hi)] H := fun e => by
        exact ⟨nil_line, fun p hp => hret [] e p hp⟩
      refine ⟨_, rfl, _, rfl, xl, _, rfl, .inl (SqL.of hx), _, _, rfl, rfl, _, rfl, ?_⟩
      rw [List.length_map, int_lt]
      by_cases h1 : i < x.length
      · rw [decide_eq_true h1]
        refine iteT ?_
        have hxi : x[i]? = some x[i] := List.getElem?_eq_getElem h1
        refine ⟨_, rfl, _, rfl, _, rfl, xl, _, _, _, rfl, rfl, SqL.of hx, atI_nat (map_vN_get hxi), _, _, rfl, rfl, _, rfl, ?_⟩
        show if decide ((lo : Int) ≤ ((x[i] : Nat) : Int)) = true then _ else _
        rw [int_le]
        by_cases h2 : lo ≤ x[i]
        · rw [decide_eq_true h2]
          refine iteT ?_
          refine ⟨_, rfl, _, _, rfl, rfl, ?_⟩
          refine ⟨_, rfl, ?_⟩
          show if decide (((x[i] : Nat) : Int) ≤ (hi : Int)) = true then _ else _
          rw [int_le]
          by_cases h3 : x[i] ≤ hi
          · rw [decide_eq_true h3]
            refine iteT ?_
            refine ⟨_, rfl, _, _, rfl, rfl, one_line, fun p hp => hret [i + 1] ?_ p hp⟩
            show (match x[i]? with | some b => if lo ≤ b then (if b ≤ hi then [i + 1] else []) else [] | none => []) = _
            rw [hxi]; simp [h2, h3]
          · rw [decide_eq_false h3]
            refine iteF ?_
            refine hno ?_
            show (match x[i]? with | some b => if lo ≤ b then (if b ≤ hi then [i + 1] else []) else [] | none => []) = _
            rw [hxi]; simp [h2, h3]
        · rw [decide_eq_false h2]
          refine iteF ?_
          refine ⟨_, rfl, ?_⟩
          refine iteF ?_
          refine hno ?_
          show (match x[i]? with | some b => if lo ≤ b then (if b ≤ hi then [i + 1] else []) else [] | none => []) = _
          rw [hxi]; simp [h2]
      · rw [decide_eq_false h1]
        refine iteF ?_
        refine iteF ?_
        refine hno ?_
        show (match x[i]? with | some b => if lo ≤ b then (if b ≤ hi then [i + 1] else []) else [] | none => []) = _
        rw [List.getElem?_eq_none (by omega)]
/-! ### passed -/
def passF (x : List Nat) (f : Nat → Nat → List Nat) (s : Sym) (ps : List Nat) : List Nat := (List.range (x.length + 1)).filter fun j => ps.any fun i => decide (j ∈ symF x f s i)
def sp_passed : Sp := fun vs H Q _ => ∃ (e sg sy pl : V) (n m : Nat) (f : Nat → Nat → List Nat) (x : List Nat) (s : Sym) (ps : List Nat), vs = [e, sg, sy, pl] ∧ EndsV H e n m f ∧ NatsV H sg x ∧ SymV H sy s ∧ SymIn m s ∧ n = x.length ∧ n ≤ 1000 ∧
  NatsV H pl ps ∧ (∀ i ∈ ps, i ≤ n ∧ ∀ j ∈ symF x f s i, j ≤ n) ∧ Ret H Q fun v H' => NatsV H' v (passF x f s ps)
/-- the flags behind some places -/
def flagF (n : Nat) (js : List Nat) : List Bool := (List.range (n + 1)).map fun j => decide (j ∈ js)
theorem flagF_length {n : Nat} {js : List Nat} : (flagF n js).length = n + 1 := by simp [flagF]
theorem flagF_set {n j : Nat} {js : List Nat} (h : j ≤ n) : (flagF n js).set j true = flagF n (js ++ [j]) := by
  apply List.ext_getElem?
  intro i
  unfold flagF
  rw [List.getElem?_set]
  by_cases hi : j = i
  · subst hi
    rw [if_pos rfl, if_pos (by simp; omega), List.getElem?_map, range_get (by omega)]
    simp
  · rw [if_neg hi, List.getElem?_map, List.getElem?_map]
    by_cases hl : i < n + 1
    · rw [range_get hl]
      have : ¬ i = j := fun e => hi e.symm
      simp [this]
    · rw [List.getElem?_eq_none (by simp; omega)]
      rfl
abbrev s_passed : Stmt := topS 16
/-- 0 ends, 1 signs, 2 symbol, 3 places, 4 flags, 5 at, 6 end, 7 place, 8 flag -/
theorem sc_passed : FnScope ["ends", "signs", "symbol", "places", "flags", "at", "end", "place", "flag"] ["ends", "signs", "symbol", "places"] (defScope s_passed) := ⟨rfl, rfl, rfl, by decide +kernel, rfl, by decide +kernel, by decide +kernel⟩
theorem ok_passed {f fS : Addr} {fd : FuncData} (F : Fun K "passed" "passed" s_passed f fd) (T : Glob mg) (F_symbol_ends : FnC P w K mg base CX0 1 "symbol_ends" ["ends", "signs", "symbol", "at"] sp_symbol_ends) :
    FnOk P w K mg base CX0 2 f fd ["ends", "signs", "symbol", "places"] sp_passed := by
  refine F.ok sc_passed (fun vs H Q E h => ?_) (fun cdv A outer s H vs Q E hr h => ?_)
  · obtain ⟨_, _, _, _, _, _, _, _, _, _, rfl, _⟩ := h
    rfl
  · obtain ⟨e, sg, sy, pl, n, m, f, x, sm, ps, rfl, he, ⟨xl, rfl, hx⟩, hs, hin, hn, hn1, ⟨pa, rfl, hp⟩, hps, ret⟩ := h
    refine ⟨_, (pss_cons (ps_set (i := 4) sc_passed.nd rfl (Or.inl rfl) (pe_op op_rep (pe_lst (pa_cons pe_bl pa_nil)) (pe_op op_add (pe_callB call_len_seq (by rfl) T.len (by decide +kernel) (pa_cons (pv 1) pa_nil)) pe_int)))
    (pss_cons (ps_for PassesOwn.never rfl (pi_list (pv 3)) (pg_name (i := 5) sc_passed.nd rfl (Or.inl rfl))
    (pss_one (ps_for PassesOwn.never rfl (pi_list (pe_fc F_symbol_ends (hr.mono (by decide)) pass0 (pa_cons (pv 0) (pa_cons (pv 1) (pa_cons (pv 2) (pa_cons (pv 5) pa_nil)))))) (pg_name (i := 6) sc_passed.nd rfl (Or.inl rfl))
    (pss_one (ps_asg pe_bl (pg_sub (pv 4) (pv 6) set_list))))))
    (pss_one (ps_ret (pe_lc (own := [("place", 7), ("flag", 8)]) (g := (gTup K 2 (gCons (gName 7) (gCons (gName 8) gNil)))) (tt := (tB (tVar 8))) (te := (tVar 7)) rfl sc_passed.nd (pi_enum (by rfl) T.enumerate (pa_cons (pv 4) pa_nil)) (blkOk_by (own := [("place", 7), ("flag", 8)]) (N := ["ends", "signs", "symbol", "places", "flags", "at", "end", "place", "flag"]) (sc := defScope s_passed) (by decide +kernel)) (fun _ _ _ _ _ => by exact (pg_tup rfl (pgs_cons (pg_name (i := 7) sc_passed.nd rfl (Or.inl rfl)) (pgs_cons (pg_name (i := 8) sc_passed.nd rfl (Or.inl rfl)) pgs_nil)))) (fun _ _ _ _ _ => by exact (pts_one (pt_val (pv 8)))) (fun _ _ _ _ _ => by exact (pv 7))))))), ?_⟩
    subst hn
    -- flags = [False] * (len(signs) + 1)
    refine ⟨one_line, fun p0 hp0 => ?_⟩
    have e0 : Ex H (upd H p0 (.lst [.bl false])) := Ex.new hp0
    refine ⟨_, rfl, xl, _, rfl, .inl (SqL.of (e0 _ _ hx)), _, _, rfl, rfl, p0, _, _, rfl, rfl, upd_same, ?_, ?_, ?_, fun fl hfl => ?_⟩
    · rw [List.length_map]; omega
    · rw [List.length_map]; omega
    · rw [List.length_map]; refine small ?_; simp; omega
    have e1 : Ex H (upd (upd H p0 (.lst [.bl false])) fl (.lst (List.replicate (((x.length : Int) + 1).toNat) [V.bl false]).flatten)) := e0.mut (e0.back hfl)
    rw [List.length_map]
    have hfl0 : H fl = none := e0.back hfl
    -- for at in places
    refine ⟨_, rfl, pa, rfl, ⟨_, SqL.of (e1 _ _ hp)⟩, for_list (K := K) (a := pa) (xs := ps.map vN) (fun i σ H' => ∃ v5 v6 js, σ = [some e, some (.ref xl), some sy, some (.ref pa), some (.ref fl), v5, v6, none, none] ∧ Ex H H' ∧
      H' fl = some (.lst ((flagF x.length js).map V.bl)) ∧ ∀ j, j ∈ js ↔ ∃ p ∈ ps.take i, j ∈ symF x f sm p) ⟨none, none, [], rfl, e1, ?_, by simp⟩ (fun i σ H' _ ⟨_, _, _, _, e2, _, _⟩ => SqL.of (e2 _ _ hp)) ?_ ?_⟩
    · rw [show upd (upd H p0 (.lst [.bl false])) fl (.lst (List.replicate (((x.length : Int) + 1).toNat) [V.bl false]).flatten) fl = _ from upd_same]
      congr 2
      rw [List.flatten_replicate_singleton]
      unfold flagF
      rw [List.map_map]
      have : ((x.length : Int) + 1).toNat = x.length + 1 := by omega
      rw [this]
      apply List.ext_getElem?
      intro i
      rw [List.getElem?_replicate, List.getElem?_map]
      by_cases hi : i < x.length + 1
      · rw [if_pos hi, range_get hi]; simp
      · rw [if_neg hi, List.getElem?_eq_none (by simp; omega)]; rfl
    · rintro i v σ H1 hi ⟨v5, v6, js, rfl, e2, hfl1, hjs⟩
      obtain ⟨at_, hat, rfl⟩ := get_map_vN hi
      have hat2 := hps at_ (List.mem_of_getElem? hat)
      refine ⟨_, rfl, _, rfl, _, rfl, _, rfl, e, _, sy, x.length, m, f, x, sm, at_, rfl, he.mono e2, ⟨xl, rfl, e2 _ _ hx⟩, hs.mono e2, hin, hat2.1, ?_⟩
      rintro v2 H2 e3 ⟨l, rfl, hl⟩
      -- for end in symbol_ends(..)
      refine ⟨l, rfl, ⟨_, SqL.of hl⟩, for_list (K := K) (a := l) (xs := (symF x f sm at_).map vN) (fun k σ H' => ∃ v6, σ = [some e, some (.ref xl), some sy, some (.ref pa), some (.ref fl), some (vN at_), v6, none, none] ∧ Ex H H' ∧
        H' l = some (.lst ((symF x f sm at_).map vN)) ∧ H' fl = some (.lst ((flagF x.length (js ++ (symF x f sm at_).take k)).map V.bl))) ⟨v6, rfl, e2.tr e3, hl, by simp; exact e3 _ _ hfl1⟩ (fun k σ H' _ ⟨_, _, _, q, _⟩ => SqL.of q) ?_ ?_⟩
      · rintro k v σ H3 hk ⟨v6', rfl, e4, hl3, hfl3⟩
        obtain ⟨j, hj, rfl⟩ := get_map_vN hk
        have hjn := hat2.2 j (List.mem_of_getElem? hj)
        refine ⟨_, rfl, _, rfl, fl, _, _, j, rfl, rfl, hfl3, ?_, ?_⟩
        · unfold ixN
          rw [if_pos (by omega), if_pos (by rw [List.length_map, flagF_length]; omega)]
          simp
        · refine ⟨some (vN j), rfl, e4.mut hfl0, ?_, ?_⟩
          · rw [upd_ne (ne_of hl3 hfl3 ?_)]
            · exact hl3
            · intro q
              have q2 := HO.lst.inj q
              have := congrArg List.head? q2
              rw [List.head?_map, List.head?_map] at this
              have hne : flagF x.length (js ++ (symF x f sm at_).take k) ≠ [] := by
                intro h0
                have := congrArg List.length h0
                rw [flagF_length] at this; simp at this
              cases h1 : (symF x f sm at_).head? with
              | none =>
                have : symF x f sm at_ = [] := List.head?_eq_none_iff.mp h1
                rw [this] at hj; simp at hj
              | some a =>
                cases h2 : (flagF x.length (js ++ (symF x f sm at_).take k)).head? with
                | none => exact hne (List.head?_eq_none_iff.mp h2)
                | some b => rw [h1, h2] at this; cases this
          · rw [upd_same]
            congr 2
            rw [← List.map_set, flagF_set hjn, List.take_succ, hj]
            simp
      · rintro σ H3 ⟨v6', rfl, e4, hl3, hfl3⟩
        refine ⟨some (vN at_), v6', js ++ symF x f sm at_, rfl, e4, ?_, fun j => ?_⟩
        · rw [List.length_map, List.take_length] at hfl3; exact hfl3
        · rw [List.mem_append, hjs, List.take_succ, hat]
          simp only [Option.toList_some, List.mem_append, List.mem_singleton]
          constructor
          · rintro (⟨p, h1, h2⟩ | h1)
            · exact ⟨p, .inl h1, h2⟩
            · exact ⟨at_, .inr rfl, h1⟩
          · rintro ⟨p, h1 | rfl, h2⟩
            · exact .inl ⟨p, h1, h2⟩
            · exact .inr h2
    · rintro σ H1 ⟨v5, v6, js, rfl, e2, hfl1, hjs⟩
      rw [List.length_map, List.take_length] at hjs
      -- return [place for place, flag in enumerate(flags) if flag]
      refine ⟨_, rfl, fl, _, rfl, SqL.of hfl1, fun Dl hD => ?_⟩
      have hDf : Dl ≠ fl := fun q => by rw [q, hfl1] at hD; cases hD
      refine lc_it (walk_enum (xs := (flagF x.length js).map V.bl)) (fun i H' => Ex H H' ∧ H' fl = some (.lst ((flagF x.length js).map V.bl)) ∧ H' Dl = some (.lst (((List.range i).filter fun j => decide (j ∈ js)).map vN)))
        ⟨e2.mut (e2.back hD), by rw [upd_ne (Ne.symm hDf)]; exact hfl1, upd_same⟩ (fun i H' _ p => SqL.of p.2.1) ?_ ?_
      · rintro i v H2 H3 hi ⟨e3, hf3, hD3⟩ ⟨Tt, a, b, rfl, hTn, rfl, ha, hb⟩
        cases Option.some.inj ha
        have hi2 : i < x.length + 1 := by rw [List.length_map, flagF_length] at hi; exact hi
        have hb2 : b = .bl (decide (i ∈ js)) := by
          have : ((flagF x.length js).map V.bl)[i]? = some (.bl (decide (i ∈ js))) := by
            unfold flagF
            rw [List.map_map, List.getElem?_map, range_get hi2]; rfl
          have hb' : ((flagF x.length js).map V.bl)[i]? = some b := hb
          rw [this] at hb'; exact (Option.some.inj hb').symm
        subst hb2
        have e4 : Ex H2 (upd H2 Tt (.tup [.int (i : Nat), .bl (decide (i ∈ js))])) := Ex.new hTn
        refine ⟨Tt, _, rfl, SqT.of upd_same, rfl, _, _, rfl, _, _, rfl, rfl, rfl, ?_⟩
        refine ⟨_, rfl, _, rfl, ?_⟩
        by_cases hij : i ∈ js
        · rw [decide_eq_true hij]
          refine iteT ?_
          refine ⟨_, rfl, _, Ex.new hTn _ _ hD3, ?_, ?_, ?_, ?_⟩
          · refine small_lt ?_
            rw [List.length_map]
            have := List.length_filter_le (fun j => decide (j ∈ js)) (List.range i)
            rw [List.length_range] at this
            omega
          · exact (e3.tr (Ex.new hTn)).mut (e2.back hD)
          · rw [upd_ne (Ne.symm hDf)]
            exact Ex.new hTn _ _ hf3
          · rw [upd_same, List.range_succ, List.filter_append, List.map_append, List.filter_cons, if_pos (by simpa using hij)]; rfl
        · rw [decide_eq_false hij]
          refine iteF ?_
          refine ⟨e3.tr (Ex.new hTn), Ex.new hTn _ _ hf3, ?_⟩
          rw [Ex.new hTn _ _ hD3, List.range_succ, List.filter_append, List.filter_cons, if_neg (by simpa using hij)]
          simp
      · rintro H2 ⟨e3, _, hD3⟩
        refine ret _ _ e3 ⟨Dl, rfl, ?_⟩
        rw [hD3, List.length_map, flagF_length]
        congr 2
        unfold passF
        congr 1
        refine List.filter_congr fun j _ => ?_
        rw [Bool.eq_iff_iff]
        simp [hjs j]
/-! ### rule_ends -/
def ruleF (x : List Nat) (f : Nat → Nat → List Nat) (l : List Sym) (i : Nat) : List Nat := l.foldl (fun ps s => passF x f s ps) [i]
theorem passF_mem {x : List Nat} {f : Nat → Nat → List Nat} {s : Sym} {ps : List Nat} {j : Nat} : j ∈ passF x f s ps ↔ j ≤ x.length ∧ ∃ i ∈ ps, j ∈ symF x f s i := by
  unfold passF
  simp only [List.mem_filter, List.mem_range, List.any_eq_true, decide_eq_true_eq]
  constructor
  · rintro ⟨h1, h2⟩; exact ⟨by omega, h2⟩
  · rintro ⟨h1, h2⟩; exact ⟨by omega, h2⟩
/-- the table's places lie within the text, at or behind their own -/
def FLim (x : List Nat) (m i0 : Nat) (f : Nat → Nat → List Nat) : Prop := ∀ i a, i0 ≤ i → i ≤ x.length → a < m → ∀ j ∈ f i a, i ≤ j ∧ j ≤ x.length
theorem symF_lim {x : List Nat} {m i0 i : Nat} {f : Nat → Nat → List Nat} (h : FLim x m i0 f) {s : Sym} (hs : SymIn m s) (h0 : i0 ≤ i) (hi : i ≤ x.length) : ∀ j ∈ symF x f s i, i ≤ j ∧ j ≤ x.length := by
  intro j hj
  cases s with
  | non k => exact h i k h0 hi hs j hj
  | range lo hi' =>
    obtain ⟨b, hb, _, _, e⟩ := TR.symEnds_range (t := []) hj
    have := (List.getElem?_eq_some_iff.mp hb).1
    omega
theorem passF_lim {x : List Nat} {m i0 : Nat} {f : Nat → Nat → List Nat} (h : FLim x m i0 f) {s : Sym} (hs : SymIn m s) {ps : List Nat} (hp : ∀ i ∈ ps, i0 ≤ i ∧ i ≤ x.length) : ∀ j ∈ passF x f s ps, i0 ≤ j ∧ j ≤ x.length := by
  intro j hj
  obtain ⟨h1, i, hi, h2⟩ := passF_mem.mp hj
  have := (symF_lim h hs (hp i hi).1 (hp i hi).2 j h2).1
  have := (hp i hi).1
  omega
theorem ruleF_lim {x : List Nat} {m i0 : Nat} {f : Nat → Nat → List Nat} (h : FLim x m i0 f) : ∀ {l : List Sym} {ps : List Nat}, (∀ s ∈ l, SymIn m s) → (∀ i ∈ ps, i0 ≤ i ∧ i ≤ x.length) → ∀ j ∈ l.foldl (fun ps s => passF x f s ps) ps, i0 ≤ j ∧ j ≤ x.length
  | [], ps, _, hp => hp
  | s :: l, ps, hs, hp => ruleF_lim (l := l) h (fun s' hs' => hs s' (List.mem_cons_of_mem s hs')) (passF_lim h (hs s List.mem_cons_self) hp)
def sp_rule_ends : Sp := fun vs H Q _ => ∃ (e sg sy : V) (n m : Nat) (f : Nat → Nat → List Nat) (x : List Nat) (l : List Sym) (i : Nat), vs = [e, sg, sy, vN i] ∧ EndsV H e n m f ∧ NatsV H sg x ∧ SymsV H sy l ∧ (∀ s ∈ l, SymIn m s) ∧ n = x.length ∧ n ≤ 1000 ∧
  i ≤ n ∧ FLim x m i f ∧ Ret H Q fun v H' => NatsV H' v (ruleF x f l i)
abbrev s_rule_ends : Stmt := topS 17
/-- 0 ends, 1 signs, 2 symbols, 3 at, 4 places, 5 symbol -/
theorem sc_rule_ends : FnScope ["ends", "signs", "symbols", "at", "places", "symbol"] ["ends", "signs", "symbols", "at"] (defScope s_rule_ends) := ⟨rfl, rfl, rfl, by decide +kernel, rfl, by decide +kernel, by decide +kernel⟩
theorem ok_rule_ends {f : Addr} {fd : FuncData} (F : Fun K "rule_ends" "rule_ends" s_rule_ends f fd) (T : Glob mg) (F_passed : FnC P w K mg base CX0 2 "passed" ["ends", "signs", "symbol", "places"] sp_passed) :
    FnOk P w K mg base CX0 3 f fd ["ends", "signs", "symbols", "at"] sp_rule_ends := by
  refine F.ok sc_rule_ends (fun vs H Q E h => ?_) (fun cdv A outer s H vs Q E hr h => ?_)
  · obtain ⟨_, _, _, _, _, _, _, _, _, rfl, _⟩ := h
    rfl
  · obtain ⟨e, sg, sy, n, m, f, x, l, i, rfl, he, hx, hs, hin, hn, hn1, hi, hf, ret⟩ := h
    refine ⟨_, (pss_cons (ps_set (i := 4) sc_rule_ends.nd rfl (Or.inl rfl) (pe_lst (pa_cons (pv 3) pa_nil)))
    (pss_cons (ps_for PassesOwn.never rfl (pi_list (pv 2)) (pg_name (i := 5) sc_rule_ends.nd rfl (Or.inl rfl))
    (pss_one (ps_set (i := 4) sc_rule_ends.nd rfl (Or.inl rfl) (pe_fc F_passed (hr.mono (by decide)) pass0 (pa_cons (pv 0) (pa_cons (pv 1) (pa_cons (pv 5) (pa_cons (pv 4) pa_nil))))))))
    (pss_one (ps_ret (pv 4))))), ?_⟩
    subst hn
    obtain ⟨sl, svs, rfl, hsl, hsp⟩ := hs
    refine ⟨_, rfl, one_line, fun p0 hp0 => ?_⟩
    have e0 : Ex H (upd H p0 (.lst [vN i])) := Ex.new hp0
    refine ⟨_, rfl, sl, rfl, ⟨_, SqL.of (e0 _ _ hsl)⟩, for_list (K := K) (a := sl) (xs := svs) (fun k σ H' => ∃ pl v5, σ = [some e, some sg, some (.ref sl), some (vN i), some pl, v5] ∧ Ex H H' ∧ NatsV H' pl ((l.take k).foldl (fun ps s => passF x f s ps) [i]))
      ⟨_, none, rfl, e0, p0, rfl, upd_same⟩ (fun k σ H' _ ⟨_, _, _, e1, _⟩ => SqL.of (e1 _ _ hsl)) ?_ ?_⟩
    · rintro k v σ H1 hk ⟨pl, v5, rfl, e1, hpl⟩
      obtain ⟨sm, hsm, hsv⟩ := Paired.at' hsp hk
      have hsi := hin sm (List.mem_of_getElem? hsm)
      have hlim := ruleF_lim hf (l := l.take k) (ps := [i]) (fun s hs => hin s (List.mem_of_mem_take hs)) (fun j hj => by rw [List.mem_singleton] at hj; subst hj; exact ⟨Nat.le_refl _, hi⟩)
      refine ⟨_, rfl, _, rfl, _, rfl, _, rfl, e, sg, v, pl, x.length, m, f, x, sm, _, rfl, he.mono e1, hx.mono e1, hsv.mono e1, hsi, rfl, hn1, hpl, ?_, ?_⟩
      · intro j hj
        have h1 := hlim j hj
        exact ⟨h1.2, fun j' hj' => (symF_lim hf hsi h1.1 h1.2 j' hj').2⟩
      · intro v2 H2 e2 hv2
        refine ⟨v2, some v, rfl, e1.tr e2, ?_⟩
        rw [List.take_succ, hsm, Option.toList_some, List.foldl_append]
        exact hv2
    · rintro σ H1 ⟨pl, v5, rfl, e1, hpl⟩
      rw [Paired.len hsp, List.take_length] at hpl
      exact ⟨_, rfl, ret _ _ e1 hpl⟩
end
end TW
set_option Elab.async false
set_option linter.all false
set_option maxRecDepth 100000
set_option maxHeartbeats 4000000
namespace TW
open PySem PySem.Spec PyProof.Rows L2
open Vaglrc (Sym Rule Grammar)
open TR (symF PathF tbl Up)
/-! ### the table, its rows known by their places in the heap -/
def RowX (rs : List Addr) (H : Hp) (r m : Nat) (f : Nat → List Nat) : Prop := ∃ cvs, H r = some (.lst cvs) ∧ Paired (fun v ns => ∃ l, v = .ref l ∧ H l = some (.lst (ns.map vN)) ∧ l ∉ rs) cvs ((List.range m).map f)
structure EndsX (H : Hp) (el : Addr) (rs : List Addr) (n m : Nat) (f : Nat → Nat → List Nat) : Prop where
  top : H el = some (.lst (rs.map V.ref))
  len : rs.length = n + 1
  nd : rs.Nodup
  apart : el ∉ rs
  row : ∀ (j : Nat) (r : Addr), rs[j]? = some r → RowX rs H r m (f j)
theorem EndsX.mono {H H' : Hp} {el : Addr} {rs : List Addr} {n m : Nat} {f : Nat → Nat → List Nat} (e : Ex H H') (h : EndsX H el rs n m f) : EndsX H' el rs n m f :=
  ⟨e _ _ h.top, h.len, h.nd, h.apart, fun j r hj => by
    obtain ⟨cvs, h1, h2⟩ := h.row j r hj
    exact ⟨cvs, e _ _ h1, Paired.mono2 h2 fun v ns ⟨l, a, b, c⟩ => ⟨l, a, e _ _ b, c⟩⟩⟩
theorem map_ref_get {rs : List Addr} {j : Nat} {r : Addr} (h : rs[j]? = some r) : (rs.map V.ref)[j]? = some (.ref r) := by rw [List.getElem?_map, h]; rfl
theorem paired_of {α β : Type} {F : α → β → Prop} : ∀ {l₁ : List α} {l₂ : List β}, l₁.length = l₂.length → (∀ (i : Nat) (a : α) (b : β), l₁[i]? = some a → l₂[i]? = some b → F a b) → Paired F l₁ l₂
  | [], [], _, _ => .nil
  | a :: l₁, b :: l₂, hl, h => .cons (h 0 a b rfl rfl) (paired_of (by simpa using hl) fun i a' b' h1 h2 => h (i + 1) a' b' (by simpa using h1) (by simpa using h2))
  | [], _ :: _, hl, _ => by simp at hl
  | _ :: _, [], hl, _ => by simp at hl
theorem EndsX.toV {H : Hp} {el : Addr} {rs : List Addr} {n m : Nat} {f : Nat → Nat → List Nat} (h : EndsX H el rs n m f) : EndsV H (.ref el) n m f := by
  refine ⟨el, rs.map V.ref, rfl, h.top, paired_of (by simp [h.len]) fun i a b h1 h2 => ?_⟩
  rw [List.getElem?_map] at h1
  obtain ⟨r, hr, rfl⟩ := Option.map_eq_some_iff.mp h1
  have hi : i < n + 1 := by have := (List.getElem?_eq_some_iff.mp hr).1; rw [h.len] at this; exact this
  rw [range_get hi] at h2
  cases h2
  obtain ⟨cvs, c1, c2⟩ := h.row i r hr
  exact ⟨r, cvs, rfl, c1, Paired.mono2 c2 fun v ns ⟨l, a, b, _⟩ => ⟨l, a, b⟩⟩
/-- a cell's list at hand -/
theorem EndsX.cell {H : Hp} {el : Addr} {rs : List Addr} {n m i a : Nat} {f : Nat → Nat → List Nat} (h : EndsX H el rs n m f) (hi : i ≤ n) (ha : a < m) :
    ∃ r cvs l, rs[i]? = some r ∧ (rs.map V.ref)[i]? = some (.ref r) ∧ H r = some (.lst cvs) ∧ cvs[a]? = some (.ref l) ∧ H l = some (.lst ((f i a).map vN)) ∧ cvs.length = m := by
  have hlt : i < rs.length := by rw [h.len]; omega
  obtain ⟨cvs, c1, c2⟩ := h.row i _ (List.getElem?_eq_getElem hlt)
  obtain ⟨v, v1, l, rfl, v2, _⟩ := Paired.at c2 (show ((List.range m).map (f i))[a]? = some (f i a) by rw [List.getElem?_map, range_get ha]; rfl)
  refine ⟨_, cvs, l, List.getElem?_eq_getElem hlt, map_ref_get (List.getElem?_eq_getElem hlt), c1, v1, v2, ?_⟩
  have := Paired.len c2
  simpa using this
/-- ends[i][a] = the list at p -/
def put2 (f : Nat → Nat → List Nat) (i a : Nat) (ns : List Nat) (i' a' : Nat) : List Nat := if i' = i ∧ a' = a then ns else f i' a'
theorem EndsX.put {H : Hp} {el : Addr} {rs : List Addr} {n m i a : Nat} {f : Nat → Nat → List Nat} (h : EndsX H el rs n m f) (ha : a < m) {r p : Addr} {cvs : List V} {ns : List Nat} (hr : rs[i]? = some r) (hc : H r = some (.lst cvs)) (hp : H p = some (.lst (ns.map vN))) (hpr : p ∉ rs) :
    EndsX (upd H r (.lst (cvs.set a (.ref p)))) el rs n m (put2 f i a ns) := by
  have hrm := List.mem_of_getElem? hr
  have hel : el ≠ r := fun e => h.apart (e ▸ hrm)
  have other : ∀ l, l ∉ rs → l ≠ r := fun l hl e => hl (e ▸ hrm)
  refine ⟨by rw [upd_ne hel]; exact h.top, h.len, h.nd, h.apart, fun j r' hj => ?_⟩
  by_cases e : j = i
  · subst e
    have : r' = r := Option.some.inj (hj.symm.trans hr)
    subst this
    obtain ⟨cvs', c1, c2⟩ := h.row j r' hj
    have : cvs' = cvs := by rw [hc] at c1; cases c1; rfl
    subst this
    refine ⟨_, upd_same, paired_of ?_ fun k v b h1 h2 => ?_⟩
    · rw [List.length_set]; have := Paired.len c2; simpa using this
    · rw [List.getElem?_map] at h2
      obtain ⟨k', hk', e2⟩ := Option.map_eq_some_iff.mp h2
      have hkl := (List.getElem?_eq_some_iff.mp hk').1
      rw [List.length_range] at hkl
      rw [range_get hkl] at hk'
      cases hk'
      rw [List.getElem?_set] at h1
      by_cases ek : a = k
      · subst ek
        rw [if_pos rfl] at h1
        split at h1
        · cases h1
          refine ⟨p, rfl, ?_, hpr⟩
          rw [upd_ne (other p hpr), hp, ← e2]
          show _ = some (HO.lst ((if j = j ∧ a = a then ns else f j a).map vN))
          rw [if_pos ⟨rfl, rfl⟩]
        · cases h1
      · rw [if_neg ek] at h1
        obtain ⟨b', b1, l, rfl, b2, b3⟩ := Paired.at' c2 h1
        rw [List.getElem?_map, range_get hkl] at b1
        cases b1
        refine ⟨l, rfl, ?_, b3⟩
        rw [upd_ne (other l b3), b2, ← e2]
        show _ = some (HO.lst ((if j = j ∧ k = a then ns else f j k).map vN))
        rw [if_neg (fun z => ek z.2.symm)]
  · have hne : r' ≠ r := fun e2 => by
      subst e2
      have h1 := (List.getElem?_eq_some_iff.mp hj)
      have h2 := (List.getElem?_eq_some_iff.mp hr)
      obtain ⟨l1, e1⟩ := h1
      obtain ⟨l2, e2⟩ := h2
      exact e ((List.getElem_inj h.nd).mp (e1.trans e2.symm))
    obtain ⟨cvs', c1, c2⟩ := h.row j r' hj
    refine ⟨cvs', by rw [upd_ne hne]; exact c1, ?_⟩
    have ef : (List.range m).map (put2 f i a ns j) = (List.range m).map (f j) := List.map_congr_left fun k _ => if_neg fun z => e z.1
    rw [ef]
    refine Paired.mono2 c2 fun v ns ⟨l, a, b, c⟩ => ⟨l, a, ?_, c⟩
    rw [upd_ne (other l c)]; exact b
theorem ruleF_mem {x : List Nat} {f : Nat → Nat → List Nat} {j : Nat} : ∀ {l : List Sym} {ps : List Nat}, j ∈ l.foldl (fun ps s => passF x f s ps) ps ↔ ∃ i ∈ ps, PathF x f l i j
  | [], ps => ⟨fun h => ⟨j, h, rfl⟩, fun ⟨i, h, e⟩ => by have e' : i = j := e; rw [← e']; exact h⟩
  | s :: l, ps => by
    rw [List.foldl_cons, ruleF_mem (l := l)]
    constructor
    · rintro ⟨k, hk, p⟩
      obtain ⟨h1, i, hi, h2⟩ := passF_mem.mp hk
      exact ⟨i, hi, k, h2, h1, p⟩
    · rintro ⟨i, hi, k, h2, h1, p⟩
      exact ⟨k, passF_mem.mpr ⟨h1, i, hi, h2⟩, p⟩
theorem ruleF_iff {x : List Nat} {f : Nat → Nat → List Nat} {l : List Sym} {i j : Nat} : j ∈ ruleF x f l i ↔ PathF x f l i j := by
  unfold ruleF
  rw [ruleF_mem]
  exact ⟨fun ⟨i', h, p⟩ => by rw [List.mem_singleton] at h; subst h; exact p, fun p => ⟨i, List.mem_singleton.mpr rfl, p⟩⟩
end TW
set_option Elab.async false
set_option linter.all false
set_option maxRecDepth 100000
set_option maxHeartbeats 4000000
namespace TW
open PySem PySem.Spec PyProof.Rows L2
open Vaglrc (Sym Rule Grammar)
open TR (symF PathF tbl Up WfG)
/-- the rules of a grammar, each with the hole it's added for -/
structure RulesOk (g : Grammar) (rules : List (Rule × Int)) : Prop where
  map : rules.map (·.1) = g.rules
  wf : WfG g
  few : rules.length ≤ 100
  short : ∀ r ∈ rules, r.1.rhs.length ≤ 8
theorem RulesOk.mem {g : Grammar} {rules : List (Rule × Int)} (h : RulesOk g rules) {r : Rule × Int} (hr : r ∈ rules) : r.1 ∈ g.rules := by
  rw [← h.map]; exact List.mem_map_of_mem hr
theorem RulesOk.symIn {g : Grammar} {rules : List (Rule × Int)} (h : RulesOk g rules) {r : Rule × Int} (hr : r ∈ rules) : ∀ s ∈ r.1.rhs, SymIn g.nons s := by
  intro s hs
  cases s with
  | non k => exact h.wf.rhs r.1 (h.mem hr) k hs
  | range lo hi => trivial
theorem put2_other {f : Nat → Nat → List Nat} {i a j b : Nat} {ns : List Nat} (h : ¬ (j = i ∧ b = a)) : put2 f i a ns j b = f j b := if_neg h
/-- the state of the row at i: later places exact, this one sound and rising -/
structure RowI (g : Grammar) (x : List Nat) (i : Nat) (f : Nat → Nat → List Nat) : Prop where
  off : ∀ j a, j ≠ i → f j a = tbl (Vaglrc.spansOf g x) (i + 1) j a
  sound : ∀ a, ∀ j ∈ f i a, j ∈ Vaglrc.ends (Vaglrc.spansOf g x) a i
  up : ∀ a, Up (f i a)
theorem RowI.all {g : Grammar} {x : List Nat} {i : Nat} {f : Nat → Nat → List Nat} (h : RowI g x i f) : ∀ k a, ∀ j ∈ f k a, j ∈ Vaglrc.ends (Vaglrc.spansOf g x) a k := by
  intro k a j hj
  by_cases e : k = i
  · subst e; exact h.sound a j hj
  · rw [h.off k a e] at hj
    unfold tbl at hj
    split at hj
    · exact hj
    · cases hj
theorem RowI.lim {g : Grammar} {x : List Nat} {i : Nat} {f : Nat → Nat → List Nat} (h : RowI g x i f) : FLim x g.nons i f := by
  intro k a _ _ _ j hj
  have := TR.spans_good.lim (h.all k a j hj)
  exact ⟨this.2.2.1, this.2.2.2⟩
theorem RowI.put {g : Grammar} {x : List Nat} {i a : Nat} {f : Nat → Nat → List Nat} (h : RowI g x i f) {ns : List Nat} (u : Up ns) (s : ∀ j ∈ ns, j ∈ Vaglrc.ends (Vaglrc.spansOf g x) a i) : RowI g x i (put2 f i a ns) := by
  refine ⟨fun j b e => ?_, fun b j hj => ?_, fun b => ?_⟩
  · rw [put2_other fun z => e z.1]; exact h.off j b e
  · unfold put2 at hj
    by_cases e : i = i ∧ b = a
    · rw [if_pos e] at hj; rw [e.2]; exact s j hj
    · rw [if_neg e] at hj; exact h.sound b j hj
  · unfold put2
    by_cases e : i = i ∧ b = a
    · rw [if_pos e]; exact u
    · rw [if_neg e]; exact h.up b
/-- the number of ends at a place -/
def tot (m : Nat) (f : Nat → List Nat) : Nat := ((List.range m).map fun a => (f a).length).sum
def Closed (x : List Nat) (f : Nat → Nat → List Nat) (i : Nat) (rs : List (Rule × Int)) : Prop := ∀ r ∈ rs, ∀ j ∈ ruleF x f r.1.rhs i, j ∈ f i r.1.lhs
theorem RowI.exact {g : Grammar} {x : List Nat} {i : Nat} {f : Nat → Nat → List Nat} {rules : List (Rule × Int)} (h : RowI g x i f) (ok : RulesOk g rules) (hi : i ≤ x.length) (c : Closed x f i rules) : ∀ j a, f j a = tbl (Vaglrc.spansOf g x) i j a := by
  have late : ∀ i' a, i < i' → i' ≤ x.length → a < g.nons → f i' a = Vaglrc.ends (Vaglrc.spansOf g x) a i' := fun i' a h1 _ _ => by
    rw [h.off i' a (by omega)]
    exact if_pos (by omega)
  intro j a
  by_cases e : j = i
  · subst e
    rw [TR.row_exact ok.wf hi late h.sound h.up (fun r hr k p => ?_) a]
    · exact (if_pos (Nat.le_refl _)).symm
    · rw [← ok.map] at hr
      obtain ⟨r', hr', rfl⟩ := List.mem_map.mp hr
      exact c r' hr' k (ruleF_iff.mpr p)
  · rw [h.off j a e]
    unfold tbl
    by_cases h2 : i + 1 ≤ j
    · rw [if_pos h2, if_pos (by omega)]
    · rw [if_neg h2, if_neg (by omega)]
theorem tot_put {f : Nat → Nat → List Nat} {i a : Nat} {ns : List Nat} : ∀ {m : Nat}, a < m → tot m (put2 f i a ns i) + (f i a).length = tot m (f i) + ns.length
  | 0, h => by omega
  | m + 1, h => by
    unfold tot
    rw [List.range_succ, List.map_append, List.map_append, List.sum_append, List.sum_append]
    simp only [List.map_cons, List.map_nil, List.sum_cons, List.sum_nil, Nat.add_zero]
    by_cases e : a = m
    · subst e
      have h1 : put2 f i a ns i a = ns := if_pos ⟨rfl, rfl⟩
      have h2 : (List.range a).map (fun b => (put2 f i a ns i b).length) = (List.range a).map (fun b => (f i b).length) := List.map_congr_left fun b hb => by
        rw [put2_other fun z => by have := List.mem_range.mp hb; omega]
      rw [h1, h2]; omega
    · have h1 : put2 f i a ns i m = f i m := put2_other fun z => e z.2.symm
      have ih := tot_put (f := f) (i := i) (a := a) (ns := ns) (m := m) (by omega)
      unfold tot at ih
      rw [h1]; omega
theorem tot_le {f : Nat → List Nat} {n : Nat} (h : ∀ a, (f a).length ≤ n) : ∀ m, tot m f ≤ m * n
  | 0 => by simp [tot]
  | m + 1 => by
    have ih := tot_le h m
    unfold tot at ih ⊢
    rw [List.range_succ, List.map_append, List.sum_append, Nat.add_mul]
    have := h m
    simp; omega
theorem up_sub {a b : List Nat} (ha : Up a) (hb : Up b) (h : ∀ j ∈ a, j ∈ b) : a.length ≤ b.length ∧ (a.length = b.length → a = b) := by
  have e : a = b.filter fun j => decide (j ∈ a) := TR.up_ext ha (TR.up_filter _ hb) fun j => by simp; exact h j
  constructor
  · rw [e]; exact List.length_filter_le _ _
  · intro hl
    rw [e] at hl
    have := List.filter_eq_self.mpr (List.length_filter_eq_length_iff.mp hl)
    rw [← this]; exact e
theorem put2_self {f : Nat → Nat → List Nat} {i a : Nat} {ns : List Nat} (h : ns = f i a) : put2 f i a ns = f := by
  funext j b
  unfold put2
  by_cases e : j = i ∧ b = a
  · rw [if_pos e, e.1, e.2, h]
  · rw [if_neg e]
theorem ints_nats : ∀ {ns : List Int}, (∀ k ∈ ns, 0 ≤ k) → ns.map V.int = (ns.map Int.toNat).map vN
  | [], _ => rfl
  | k :: ns, h => by
    have h0 := h k List.mem_cons_self
    rw [List.map_cons, List.map_cons, List.map_cons, ints_nats fun k' hk' => h k' (List.mem_cons_of_mem _ hk')]
    have : vN k.toNat = V.int k := by unfold vN; rw [Int.toNat_of_nonneg h0]
    rw [this]
theorem up_toNat : ∀ {ns : List Int}, ns.Pairwise (· < ·) → (∀ k ∈ ns, 0 ≤ k) → Up (ns.map Int.toNat) := by
  intro ns h h0
  unfold Up
  rw [List.pairwise_map]
  exact h.imp_of_mem fun ha hb hlt => by have := h0 _ ha; omega
theorem mem_toNat {ns : List Int} (h0 : ∀ k ∈ ns, 0 ≤ k) {j : Nat} : j ∈ ns.map Int.toNat ↔ (j : Int) ∈ ns := by
  rw [List.mem_map]
  constructor
  · rintro ⟨k, hk, rfl⟩; rw [Int.toNat_of_nonneg (h0 k hk)]; exact hk
  · intro h; exact ⟨j, h, by simp⟩
theorem mem_castI {ns : List Nat} {k : Int} : k ∈ ns.map (fun (n : Nat) => (n : Int)) ↔ ∃ j ∈ ns, k = (j : Int) := by
  rw [List.mem_map]
  exact ⟨fun ⟨j, h, e⟩ => ⟨j, h, e.symm⟩, fun ⟨j, h, e⟩ => ⟨j, h, e.symm⟩⟩
theorem ixN_nat {n j : Nat} (h : j < n) : ixN n (j : Int) = some j := by
  unfold ixN
  rw [if_pos (by omega), if_pos (by omega)]
  simp
theorem ruleF_up {x : List Nat} {f : Nat → Nat → List Nat} : ∀ {l : List Sym} {ps : List Nat}, Up ps → Up (l.foldl (fun ps s => passF x f s ps) ps)
  | [], _, h => h
  | s :: l, ps, _ => ruleF_up (l := l) (TR.up_filter _ (TR.up_range _))
theorem Paired.pairs {α β : Type} {F : α → β → Prop} {l₁ : List α} {l₂ : List β} (h : Paired F l₁ l₂) : ∃ zs : List (α × β), l₁ = zs.map Prod.fst ∧ l₂ = zs.map Prod.snd ∧ ∀ z ∈ zs, F z.1 z.2 := by
  induction h with
  | nil => exact ⟨[], rfl, rfl, by simp⟩
  | cons r _ ih =>
    obtain ⟨zs, h1, h2, h3⟩ := ih
    refine ⟨(_, _) :: zs, by rw [h1]; rfl, by rw [h2]; rfl, fun z hz => ?_⟩
    rcases List.mem_cons.mp hz with e | e
    · rw [e]; exact r
    · exact h3 z e
section
variable {P : Program} {w : World} {K : PySem.W.Frag} {mg : Str → Option Value} {base : Heap}
def sp_fill_place : Sp := fun vs H Q _ => ∃ (H0 : Hp) (el : Addr) (rs : List Addr) (rw sg : V) (i n : Nat) (g : Grammar) (x : List Nat) (rules : List (Rule × Int)) (f : Nat → Nat → List Nat),
  vs = [.ref el, rw, sg, vN i] ∧ Ex H0 H ∧ (∀ r ∈ rs, H0 r = none) ∧ EndsX H el rs n g.nons f ∧ (∀ j a, f j a = tbl (Vaglrc.spansOf g x) (i + 1) j a) ∧ RulesV H0 rw rules ∧ NatsV H0 sg x ∧ RulesOk g rules ∧ n = x.length ∧ n ≤ 24 ∧ g.nons ≤ 20 ∧ i ≤ n ∧
  ∀ H' f', Ex H0 H' → EndsX H' el rs n g.nons f' → (∀ j a, f' j a = tbl (Vaglrc.spansOf g x) i j a) → Q .non H'
abbrev s_fill_place : Stmt := topS 18
/-- 0 ends, 1 rules, 2 signs, 3 at, 4 ahead, 5 many, 6 nonterminal, 7 symbols, 8 hole, 9 more, 10 places -/
theorem sc_fill_place : FnScope ["ends", "rules", "signs", "at", "ahead", "many", "nonterminal", "symbols", "hole", "more", "places"] ["ends", "rules", "signs", "at"] (defScope s_fill_place) := ⟨rfl, rfl, rfl, by decide +kernel, rfl, by decide +kernel, by decide +kernel⟩
theorem ok_fill_place {f : Addr} {fd : FuncData} (F : Fun K "fill_place" "fill_place" s_fill_place f fd) (T : Glob mg) (F_rule_ends : FnC P w K mg base CX0 3 "rule_ends" ["ends", "signs", "symbols", "at"] sp_rule_ends) :
    FnOk P w K mg base CX0 4 f fd ["ends", "rules", "signs", "at"] sp_fill_place := by
  refine F.ok sc_fill_place (fun vs H Q E h => ?_) (fun cdv A outer s H vs Q E hr h => ?_)
  · obtain ⟨_, _, _, _, _, _, _, _, _, _, _, rfl, _⟩ := h
    rfl
  · obtain ⟨H0, el, rs, rw, sg, i, n, g, x, rules, f, rfl, e0, hrs0, hE, hf, hR, hX, ok, hn, hn24, hm20, hi, ret⟩ := h
    refine ⟨_, (pss_cons (ps_set (i := 4) sc_fill_place.nd rfl (Or.inl rfl) (pe_un un_neg pe_int))
    (pss_cons (ps_set (i := 5) sc_fill_place.nd rfl (Or.inl rfl) pe_int)
    (pss_one (ps_while PassesOwn.never (pt_cmpR op_lt (pv 4) (pv 5) (nomark _))
    (pss_cons (ps_set (i := 4) sc_fill_place.nd rfl (Or.inl rfl) (pv 5))
    (pss_cons (ps_for PassesOwn.never rfl (pi_list (pv 1)) (pg_tup rfl (pgs_cons (pg_name (i := 6) sc_fill_place.nd rfl (Or.inl rfl)) (pgs_cons (pg_name (i := 7) sc_fill_place.nd rfl (Or.inl rfl)) (pgs_cons (pg_name (i := 8) sc_fill_place.nd rfl (Or.inl rfl)) pgs_nil))))
    (pss_cons (ps_set (i := 9) sc_fill_place.nd rfl (Or.inl rfl) (pe_fc F_rule_ends (hr.mono (by decide)) pass0 (pa_cons (pv 0) (pa_cons (pv 2) (pa_cons (pv 7) (pa_cons (pv 3) pa_nil))))))
    (pss_one (ps_asg (pe_callB (cr_sortedSet rfl) (by rfl) T.sorted (by decide +kernel) (pa_cons (pe_op op_setor (pe_callTy (call_setL rfl) (by rfl) T.set (by decide +kernel) (pa_cons (pe_ix ix_list (pe_ix ix_list (pv 0) (pv 3) (fun _ _ => rfl)) (pv 6) (fun _ _ => rfl)) pa_nil)) (pe_callTy (call_setL rfl) (by rfl) T.set (by decide +kernel) (pa_cons (pv 9) pa_nil))) pa_nil)) (pg_sub (pe_ix ix_list (pv 0) (pv 3) (fun _ _ => rfl)) (pv 6) set_list)))))
    (pss_one (ps_set (i := 5) sc_fill_place.nd rfl (Or.inl rfl) (pe_callB (cr_sum rfl) (by rfl) T.sum (by decide +kernel) (pa_cons (pe_lc (own := [("places", 10)]) (g := (gName 10)) (tt := tYes) (te := (tCB (rLenK K) (tCons (tVar 10) tNil))) rfl sc_fill_place.nd (pi_list (pe_ix ix_list (pv 0) (pv 3) (fun _ _ => rfl))) (blkOk_by (own := [("places", 10)]) (N := ["ends", "rules", "signs", "at", "ahead", "many", "nonterminal", "symbols", "hole", "more", "places"]) (sc := defScope s_fill_place) (by decide +kernel)) (fun _ _ _ _ _ => by exact (pg_name (i := 10) sc_fill_place.nd rfl (Or.inl rfl))) (fun _ _ _ _ _ => pts_nil) (fun _ _ _ _ _ => by exact (pe_callB call_len_seq (by rfl) T.len (by decide +kernel) (pa_cons (pv 10) pa_nil)))) pa_nil)))))))))), ?_⟩
    have hlim : ∀ f', RowI g x i f' → ∀ a, (f' i a).length ≤ n + 1 := fun f' r a => TR.up_length (r.up a) fun j hj => by
      have := (TR.spans_good.lim (r.sound a j hj)).2.2.2; omega
    have hRow0 : RowI g x i f := ⟨fun j a _ => hf j a, (fun a j hj => by rw [hf] at hj; unfold tbl at hj; rw [if_neg (by omega)] at hj; simp at hj), fun a => by rw [hf]; unfold tbl; rw [if_neg (by omega)]; exact List.Pairwise.nil⟩
    have htot0 : tot g.nons (f i) = 0 := by
      have : ∀ m, tot m (f i) = 0 := fun m => by
        have := tot_le (f := f i) (n := 0) (fun a => by rw [hf]; unfold tbl; rw [if_neg (by omega)]; exact Nat.le_refl _) m
        omega
      exact this _
    obtain ⟨rl, rvs, rfl, hrl, hrp⟩ := hR
    obtain ⟨xl, rfl, hxl⟩ := hX
    refine ⟨_, rfl, ⟨fun μ σ H' => ∃ (ah : Int) (f' : Nat → Nat → List Nat) (v6 v7 v8 v9 v10 : Option V), σ = [some (.ref el), some (.ref rl), some (.ref xl), some (vN i), some (.int ah), some (vN (tot g.nons (f' i))), v6, v7, v8, v9, v10] ∧
      Ex H0 H' ∧ EndsX H' el rs n g.nons f' ∧ RowI g x i f' ∧ ah ≤ tot g.nons (f' i) ∧ (ah < tot g.nons (f' i) ∨ Closed x f' i rules) ∧ μ = 2 * (g.nons * (n + 1) - tot g.nons (f' i)) + (if ah < tot g.nons (f' i) then 1 else 0), ⟨_, -1, f, none, none, none, none, none, ?_, e0, hE, hRow0, ?_, ?_, rfl⟩, ?_⟩⟩
    · rw [htot0]; rfl
    · rw [htot0]; decide
    · rw [htot0]; exact .inl (by decide)
    rintro μ σ H1 ⟨ah, f1, v6, v7, v8, v9, v10, rfl, e1, hE1, hI1, hah, hcl, rfl⟩
    refine ⟨_, rfl, _, rfl, _, _, rfl, rfl, _, rfl, ?_⟩
    by_cases hlt : ah < tot g.nons (f1 i)
    · rw [decide_eq_true hlt]
      refine iteT ?_
      refine ⟨fun σ' H' => ∃ (f' : Nat → Nat → List Nat) (v6 v7 v8 v9 v10 : Option V), σ' = [some (.ref el), some (.ref rl), some (.ref xl), some (vN i), some (vN (tot g.nons (f1 i))), some (vN (tot g.nons (f' i))), v6, v7, v8, v9, v10] ∧
        Ex H0 H' ∧ EndsX H' el rs n g.nons f' ∧ RowI g x i f' ∧ (f' = f1 ∧ Closed x f1 i rules ∨ tot g.nons (f1 i) < tot g.nons (f' i)), ?_, ?_⟩
      · rintro σ' H' ⟨f', v6, v7, v8, v9, v10, rfl, e2, hE2, hI2, hc⟩
        have hb := tot_le (hlim f' hI2) g.nons
        refine ⟨_, ?_, _, f', v6, v7, v8, v9, v10, rfl, e2, hE2, hI2, ?_, ?_, rfl⟩
        · rw [if_pos hlt]
          rcases hc with ⟨rfl, _⟩ | hc
          · rw [if_neg (by omega)]; omega
          · split <;> omega
        · rcases hc with ⟨rfl, _⟩ | hc <;> omega
        · rcases hc with ⟨rfl, hc⟩ | hc
          · exact .inr hc
          · exact .inl (by omega)
      · refine ⟨_, rfl, _, rfl, rl, rfl, ⟨_, SqL.of (e1 _ _ hrl)⟩, for_list (K := K) (a := rl) (xs := rvs) (fun k σ H' => ∃ (f' : Nat → Nat → List Nat) (v6 v7 v8 v9 v10 : Option V), σ = [some (.ref el), some (.ref rl), some (.ref xl), some (vN i), some (vN (tot g.nons (f1 i))), some (vN (tot g.nons (f1 i))), v6, v7, v8, v9, v10] ∧
          Ex H0 H' ∧ EndsX H' el rs n g.nons f' ∧ RowI g x i f' ∧ (f' = f1 ∧ Closed x f1 i (rules.take k) ∨ tot g.nons (f1 i) < tot g.nons (f' i)))
          ⟨f1, v6, v7, v8, v9, v10, rfl, e1, hE1, hI1, .inl ⟨rfl, fun r hr => by simp at hr⟩⟩ (fun k σ H' _ ⟨_, _, _, _, _, _, _, e2, _⟩ => SqL.of (e2 _ _ hrl)) ?_ ?_⟩
        · rintro k v σ H2 hk ⟨f2, v6, v7, v8, v9, v10, rfl, e2, hE2, hI2, hc⟩
          obtain ⟨r, hr, ra, sv, rfl, hra, hsv⟩ := Paired.at' hrp hk
          have hrm := List.mem_of_getElem? hr
          have hlhs := ok.wf.lhs r.1 (ok.mem hrm)
          refine ⟨ra, _, rfl, SqT.of (e2 _ _ hra), rfl, _, _, rfl, _, _, rfl, _, _, rfl, rfl, ?_⟩
          -- more = rule_ends(ends, signs, symbols, at)
          refine ⟨_, rfl, _, rfl, _, rfl, _, rfl, .ref el, .ref xl, sv, n, g.nons, f2, x, r.1.rhs, i, rfl, hE2.toV, ⟨xl, rfl, e2 _ _ hxl⟩, hsv.mono e2, ok.symIn hrm, hn, by omega, hi, hI2.lim, ?_⟩
          rintro v9' H3 e3 ⟨ml, rfl, hml⟩
          have hE3 := hE2.mono e3
          have e03 := e2.tr e3
          obtain ⟨rr, cvs, cl, hrr, hrr2, hcv, hcl2, hcll, _⟩ := hE3.cell (a := r.1.lhs) hi hlhs
          have hcut : ∀ j ∈ f2 i r.1.lhs, j ≤ n := fun j hj => by have := (hI2.lim i r.1.lhs (Nat.le_refl _) (by omega) hlhs j hj).2; omega
          have hrl2 : ∀ j ∈ ruleF x f2 r.1.rhs i, j ≤ n := fun j hj => by
            have := ruleF_lim hI2.lim (l := r.1.rhs) (ps := [i]) (ok.symIn hrm) (fun j hj => by rw [List.mem_singleton] at hj; subst hj; exact ⟨Nat.le_refl _, by omega⟩) j hj
            omega
          have hlen1 := hlim f2 hI2 r.1.lhs
          have hlen2 : (ruleF x f2 r.1.rhs i).length ≤ n + 1 := TR.up_length (ruleF_up (List.pairwise_singleton _ i)) fun j hj => Nat.lt_succ_of_le (hrl2 j hj)
          have smOf : ∀ l : List Nat, (∀ j ∈ l, j ≤ n) → SU.Sm fun k => decide (k ∈ l.map fun (n : Nat) => (n : Int)) := fun l hl k hk => by
            obtain ⟨j, hj, rfl⟩ := mem_castI.mp (of_decide_eq_true hk)
            have := hl j hj
            omega
          -- set(ends[at][nonterminal]) | set(more)
          refine ⟨_, rfl, _, rfl, el, _, _, _, rfl, rfl, SqL.of hE3.top, atI_nat hrr2, _, rfl, rr, cvs, _, _, rfl, rfl, SqL.of hcv, atI_nat hcl2, cl, (f2 i r.1.lhs).map fun (n : Nat) => (n : Int), rfl, SqL.of (by rw [hcll, vN_cast]), by rw [List.length_map]; omega, fun pa ca hca hpa => ?_⟩
          rw [List.length_map] at hca
          have e4 : Ex H3 (upd H3 pa (SetO w pa (fun j => decide (j ∈ (f2 i r.1.lhs).map fun (n : Nat) => (n : Int))) ca)) := Ex.new hpa
          refine ⟨_, rfl, ml, (ruleF x f2 r.1.rhs i).map fun (n : Nat) => (n : Int), rfl, SqL.of ((e4 _ _ hml).trans (by rw [vN_cast])), by rw [List.length_map]; omega, fun pb cb hcb hpb => ?_⟩
          rw [List.length_map] at hcb
          have hab : pb ≠ pa := fun e => by rw [e, upd_same] at hpb; cases hpb
          refine ⟨pa, pb, _, _, ca, cb, rfl, rfl, by rw [upd_ne (Ne.symm hab)]; exact upd_same, upd_same, hab, smOf _ hcut, smOf _ hrl2, by omega, by omega, fun p S' n' hp hn' hS => ?_⟩
          refine ⟨p, S', n', rfl, upd_same, by omega, fun ns q hasc hmem hnl hq => ?_⟩
          have e6 := (e4.tr (Ex.new (o := SetO w pb (fun j => decide (j ∈ (ruleF x f2 r.1.rhs i).map fun (n : Nat) => (n : Int))) cb) hpb)).tr (Ex.new (o := SetO w p S' n') hp)
          have e7 := e6.tr (Ex.new (o := .lst (ns.map V.int)) hq)
          have hmem' : ∀ k, k ∈ ns ↔ (∃ j ∈ f2 i r.1.lhs, k = (j : Int)) ∨ ∃ j ∈ ruleF x f2 r.1.rhs i, k = (j : Int) := fun k => by
            rw [hmem, hS, decide_eq_true_eq, decide_eq_true_eq, mem_castI, mem_castI]
          have h0 : ∀ k ∈ ns, 0 ≤ k := fun k hk => by
            rcases (hmem' k).mp hk with ⟨j, _, rfl⟩ | ⟨j, _, rfl⟩ <;> omega
          have hmemN : ∀ j, j ∈ ns.map Int.toNat ↔ j ∈ f2 i r.1.lhs ∨ j ∈ ruleF x f2 r.1.rhs i := fun j => by
            rw [mem_toNat h0, hmem']
            constructor
            · rintro (⟨j', h, e⟩ | ⟨j', h, e⟩)
              · rw [Int.ofNat_inj.mp e]; exact .inl h
              · rw [Int.ofNat_inj.mp e]; exact .inr h
            · rintro (h | h)
              · exact .inl ⟨j, h, rfl⟩
              · exact .inr ⟨j, h, rfl⟩
          have hE7 := hE3.mono e7
          have hqrs : q ∉ rs := fun hm => by
            obtain ⟨jq, hjq⟩ := List.mem_iff_getElem?.mp hm
            obtain ⟨cq, c1, _⟩ := hE3.row jq q hjq
            have := e6 _ _ c1
            have hq' := hq
            exact absurd (hq'.symm.trans this) (by simp)
          have hput := hE7.put (i := i) hlhs (p := q) (ns := ns.map Int.toNat) hrr (e7 _ _ hcv) (by rw [upd_same, ints_nats h0]) hqrs
          refine ⟨_, rfl, _, rfl, el, _, _, _, rfl, rfl, SqL.of hE7.top, atI_nat hrr2, _, rfl, rr, cvs, _, r.1.lhs, rfl, rfl, e7 _ _ hcv, ixN_nat ?_, ?_⟩
          · have := (List.getElem?_eq_some_iff.mp hcl2).1; exact this
          refine ⟨_, some (vN r.1.lhs), some sv, some (.int r.2), some (.ref ml), v10, rfl, (e03.tr e7).mut (hrs0 rr (List.mem_of_getElem? hrr)), hput, hI2.put (up_toNat hasc h0) (fun j hj => ?_), ?_⟩
          · rcases (hmemN j).mp hj with h | h
            · exact hI2.sound _ j h
            · exact TR.rule_sound ok.wf (ok.mem hrm) (by omega) (TR.pathF_sound hI2.all (ruleF_iff.mp h))
          · have hsub := up_sub (hI2.up r.1.lhs) (up_toNat hasc h0) fun j hj => (hmemN j).mpr (.inl hj)
            have htp := tot_put (f := f2) (i := i) (ns := ns.map Int.toNat) hlhs
            by_cases hl : (f2 i r.1.lhs).length = (ns.map Int.toNat).length
            · rw [put2_self (hsub.2 hl).symm]
              rcases hc with ⟨rfl, hc⟩ | hc
              · refine .inl ⟨rfl, fun r' hr' j hj => ?_⟩
                rw [List.take_succ, hr] at hr'
                rcases List.mem_append.mp hr' with h | h
                · exact hc r' h j hj
                · have : r' = r := by simpa using h
                  subst this
                  rw [hsub.2 hl]
                  exact (hmemN j).mpr (.inr hj)
              · exact .inr hc
            · refine .inr ?_
              have := hsub.1
              rcases hc with ⟨rfl, _⟩ | hc <;> omega
        · rintro σ H2 ⟨f2, v6, v7, v8, v9, v10, rfl, e2, hE2, hI2, hc⟩
          rw [Paired.len hrp, List.take_length] at hc
          have hir : i < rs.length := by rw [hE2.len]; omega
          obtain ⟨cvs, hcv, hcp⟩ := hE2.row i _ (List.getElem?_eq_getElem hir)
          obtain ⟨zs, hz1, hz2, hz3⟩ := (Paired.pairs hcp)
          have hlenz : zs.length = g.nons := by have := congrArg List.length hz2; simpa using this.symm
          refine ⟨_, rfl, _, rfl, el, _, _, _, rfl, rfl, SqL.of hE2.top, atI_nat (map_ref_get (List.getElem?_eq_getElem hir)), _, rfl, ⟨_, SqL.of hcv⟩, fun D hD => ?_⟩
          refine lcA (K := K) (ys := zs) (g := Prod.fst) (b := fun _ => true) (c := fun z => vN z.2.length) hD (hl := by rw [hcv, hz1]) (by omega) (fun _ => rfl) (fun _ _ _ _ => evb_yes) (fun z hz H' e' _ R hR => ?_) fun H' e3 hDv => ?_
          · obtain ⟨l, h1, h2, _⟩ := hz3 z hz
            rw [h1]
            refine ⟨_, rfl, l, _, rfl, .inl (SqL.of (e' _ _ h2)), ?_⟩
            rw [List.length_map]
            exact hR _ (Ex.refl _)
          · refine ⟨D, zs.map fun z => ((z.2.length : Nat) : Int), rfl, SqL.of ?_, ?_⟩
            · rw [hDv, filter_true, List.map_map]; rfl
            · have hsum : (zs.map fun z => ((z.2.length : Nat) : Int)).sum = ((tot g.nons (f2 i) : Nat) : Int) := by
                have h1 : (List.range g.nons).map (fun a => (f2 i a).length) = zs.map fun z => z.2.length := by
                  have := congrArg (List.map List.length) hz2
                  rw [List.map_map, List.map_map] at this
                  exact this
                unfold tot
                rw [h1]
                clear hz1 hz2 hz3 hlenz hDv h1
                induction zs with
                | nil => rfl
                | cons z zs ih => rw [List.map_cons, List.map_cons, List.sum_cons, List.sum_cons, ih]; omega
              rw [hsum]
              exact ⟨f2, v6, v7, v8, v9, v10, rfl, e2.tr e3, hE2.mono e3, hI2, hc⟩
    · rw [decide_eq_false hlt]
      refine iteF ?_
      refine ret _ f1 e1 hE1 (hI1.exact ok (by omega) (hcl.resolve_left hlt))
end
end TW
set_option Elab.async false
set_option linter.all false
set_option maxRecDepth 100000
set_option maxHeartbeats 4000000
namespace TW
open PySem PySem.Spec PyProof.Rows L2
open Vaglrc (Sym Rule Grammar)
open TR (symF PathF tbl Up WfG)
def relabelBy (scope fs : Scope) : Scope := { scope with names := scope.names.map fun (n, k) => if (k == .free && fs.kind == .function && fs.names.lookup n == some .cell) then (n, .cell) else (n, k) }
section
variable {P : Program} {w : World} {K : PySem.W.Frag} {mg : Str → Option Value} {base : Heap}
/-- all ends by the grammar's table -/
def endsT (g : Grammar) (x : List Nat) (i a : Nat) : List Nat := Vaglrc.ends (Vaglrc.spansOf g x) a i
def sp_ends_of : Sp := fun vs H Q _ => ∃ (rw sg : V) (g : Grammar) (x : List Nat) (rules : List (Rule × Int)),
  vs = [vN g.nons, rw, sg] ∧ RulesV H rw rules ∧ NatsV H sg x ∧ RulesOk g rules ∧ x.length ≤ 24 ∧ g.nons ≤ 20 ∧ Ret H Q fun v H' => EndsV H' v x.length g.nons (endsT g x)
/-- the rows that are there so far -/
structure RowsN (H0 H : Hp) (D : Addr) (rs : List Addr) (m k : Nat) : Prop where
  ex : Ex H0 H
  fresh : ∀ r ∈ rs, H0 r = none
  len : rs.length = k
  nd : rs.Nodup
  apart : D ∉ rs
  row : ∀ r ∈ rs, ∃ cvs, H r = some (.lst cvs) ∧ Paired (fun v ns => ∃ l, v = .ref l ∧ H l = some (.lst (ns.map vN)) ∧ l ∉ rs ∧ l ≠ D) cvs ((List.range m).map fun _ => ([] : List Nat))
abbrev s_ends_of : Stmt := topS 19
/-- 0 many, 1 rules, 2 signs, 3 ends, 4 at, 5 nonterminal -/
theorem sc_ends_of : FnScope ["many", "rules", "signs", "ends", "at", "nonterminal"] ["many", "rules", "signs"] (defScope s_ends_of) := ⟨rfl, rfl, rfl, by decide +kernel, rfl, by decide +kernel, by decide +kernel⟩
theorem ok_ends_of {f : Addr} {fd : FuncData} (F : Fun K "ends_of" "ends_of" s_ends_of f fd) (T : Glob mg) (F_fill_place : FnC P w K mg base CX0 4 "fill_place" ["ends", "rules", "signs", "at"] sp_fill_place) :
    FnOk P w K mg base CX0 5 f fd ["many", "rules", "signs"] sp_ends_of := by
  refine F.ok sc_ends_of (fun vs H Q E h => ?_) (fun cdv A outer s H vs Q E hr h => ?_)
  · obtain ⟨_, _, _, _, _, rfl, _⟩ := h
    rfl
  · obtain ⟨rw, sg, g, x, rules, rfl, hR, ⟨xl, rfl, hx⟩, ok, hn24, hm20, ret⟩ := h
    refine ⟨_, (pss_cons (ps_setLc (i := 3) (own := [("at", 4)]) (g := (gName 4)) (tt := tYes) rfl sc_ends_of.nd rfl rfl (sw_true rfl rfl rfl (by decide +kernel)) (pi_range1 (by rfl) T.range (pa_cons (pe_op op_add (pe_callB call_len_seq (by rfl) T.len (by decide +kernel) (pa_cons (pv 2) pa_nil)) pe_int) pa_nil)) (blkOk_by (own := [("at", 4)]) (N := ["many", "rules", "signs", "ends", "at", "nonterminal"]) (sc := defScope s_ends_of) (by decide +kernel)) (fun _ _ _ _ _ => by exact (pg_name (i := 4) sc_ends_of.nd rfl (Or.inl rfl))) (fun _ _ _ _ _ => pts_nil) (fun _ _ _ _ _ => by exact (pe_lc (own := [("nonterminal", 5)]) (g := (gName 5)) (tt := tYes) (te := (tLst tNil)) rfl sc_ends_of.nd (pi_range1 (by rfl) T.range (pa_cons (pv 0) pa_nil)) (blkOk_by (own := [("nonterminal", 5)]) (N := ["many", "rules", "signs", "ends", "at", "nonterminal"]) (sc := relabelBy (lcScope (stValue (defBody s_ends_of) 0)) (defScope s_ends_of)) (by decide +kernel)) (fun _ _ _ _ _ => by exact (pg_name (i := 5) sc_ends_of.nd rfl (Or.inl rfl))) (fun _ _ _ _ _ => pts_nil) (fun _ _ _ _ _ => by exact (pe_lst pa_nil)))))
    (pss_cons (ps_for PassesOwn.never rfl (pi_range3 (by rfl) T.range (pa_cons (pe_callB call_len_seq (by rfl) T.len (by decide +kernel) (pa_cons (pv 2) pa_nil)) (pa_cons (pe_un un_neg pe_int) (pa_cons (pe_un un_neg pe_int) pa_nil)))) (pg_name (i := 4) sc_ends_of.nd rfl (Or.inl rfl))
    (pss_one (ps_expr (pe_fc F_fill_place (hr.mono (by decide)) pass0 (pa_cons (pv 3) (pa_cons (pv 1) (pa_cons (pv 2) (pa_cons (pv 4) pa_nil))))))))
    (pss_one (ps_ret (pv 3))))), ?_⟩
    refine ⟨_, rfl, xl, _, rfl, .inl (SqL.of hx), _, _, rfl, rfl, _, rfl, ?_, ?_, fun D hD => ?_⟩
    · rw [List.length_map]; omega
    · rw [List.length_map]; omega
    rw [show (((x.map vN).length : Int) + 1).toNat = x.length + 1 by rw [List.length_map]; omega]
    refine lc_range (fun k H' => ∃ rs, H' D = some (.lst (rs.map V.ref)) ∧ RowsN H H' D rs g.nons k) ⟨[], upd_same, Ex.new hD, by simp, rfl, List.nodup_nil, by simp, by simp⟩ ?_ ?_
    · rintro k H1 hk ⟨rs, hD1, hI⟩
      refine ⟨rfl, _, rfl, _, rfl, ?_, ?_, fun D2 hD2 => ?_⟩
      · omega
      · omega
      have hdd : D2 ≠ D := fun e => by rw [e, hD1] at hD2; cases hD2
      refine lc_range (fun j H' => Ex H1 H' ∧ ∃ cvs, H' D2 = some (.lst cvs) ∧ cvs.length = j ∧ ∀ v ∈ cvs, ∃ l, v = .ref l ∧ H' l = some (.lst []) ∧ l ∉ rs ∧ l ≠ D2 ∧ l ≠ D) ⟨Ex.new hD2, [], upd_same, rfl, by simp⟩ ?_ ?_
      · rintro j H2 hj ⟨e2, cvs, hc, hcl, hcv⟩
        refine ⟨rfl, nil_line, fun l hl => ?_⟩
        have hlD : l ≠ D2 := fun e => by rw [e, hc] at hl; cases hl
        refine ⟨cvs, by rw [upd_ne (Ne.symm hlD)]; exact hc, small_lt (by omega), (e2.tr (Ex.new hl)).mut hD2, _, upd_same, by simp [hcl], fun v hv => ?_⟩
        rcases List.mem_append.mp hv with h | h
        · obtain ⟨l', rfl, h1, h2, h3⟩ := hcv v h
          refine ⟨l', rfl, ?_, h2, h3⟩
          rw [upd_ne h3.1]
          exact Ex.new hl _ _ h1
        · rw [List.mem_singleton] at h
          refine ⟨l, h, ?_, fun hm => ?_, hlD, fun e => by rw [e, e2 _ _ hD1] at hl; cases hl⟩
          · rw [upd_ne hlD]; exact upd_same
          · obtain ⟨cv', c1, _⟩ := hI.row l hm
            rw [e2 _ _ c1] at hl; cases hl
      · rintro H2 ⟨e2, cvs, hc, hcl, hcv⟩
        refine ⟨rs.map V.ref, e2 _ _ hD1, ?_, rs ++ [D2], ?_, ?_⟩
        · refine small_lt ?_
          rw [List.length_map, hI.len]; omega
        · rw [upd_same, List.map_append]; rfl
        · have hnot : D2 ∉ rs := fun hm => by
            obtain ⟨cv', c1, _⟩ := hI.row D2 hm
            rw [c1] at hD2; cases hD2
          have hcD : ∀ r, r ∈ rs ∨ r = D2 → r ≠ D := fun r hr e => by
            rcases hr with h | h
            · exact hI.apart (e ▸ h)
            · exact hdd (h ▸ e)
          refine ⟨(hI.ex.tr e2).mut hD, fun r hr => ?_, ?_, ?_, ?_, fun r hr => ?_⟩
          · rcases List.mem_append.mp hr with h | h
            · exact hI.fresh r h
            · rw [List.mem_singleton.mp h]; exact hI.ex.back hD2
          · rw [List.length_append, hI.len]; rfl
          · rw [List.nodup_append]
            refine ⟨hI.nd, by simp, fun a ha b hb e => ?_⟩
            rw [List.mem_singleton] at hb
            exact hnot (hb ▸ e ▸ ha)
          · intro hm
            rcases List.mem_append.mp hm with h | h
            · exact hI.apart h
            · exact hdd (List.mem_singleton.mp h).symm
          · rcases List.mem_append.mp hr with h | h
            · obtain ⟨cv', c1, c2⟩ := hI.row r h
              refine ⟨cv', by rw [upd_ne (hcD r (.inl h))]; exact e2 _ _ c1, Paired.mono2 c2 fun v ns ⟨l, q1, q2, q3⟩ => ⟨l, q1, ?_, ?_, q3.2⟩⟩
              · rw [upd_ne q3.2]; exact e2 _ _ q2
              · intro hm
                rcases List.mem_append.mp hm with h | h
                · exact q3.1 h
                · rw [List.mem_singleton.mp h, hD2] at q2; cases q2
            · rw [List.mem_singleton.mp h]
              refine ⟨cvs, by rw [upd_ne hdd]; exact hc, paired_of (by simp [hcl]) fun i a b h1 h2 => ?_⟩
              rw [List.getElem?_map] at h2
              obtain ⟨_, _, rfl⟩ := Option.map_eq_some_iff.mp h2
              obtain ⟨l, rfl, l1, l2, l3, l4⟩ := hcv a (List.mem_of_getElem? h1)
              refine ⟨l, rfl, by rw [upd_ne l4]; exact l1, fun hm => ?_, l4⟩
              rcases List.mem_append.mp hm with h | h
              · exact l2 h
              · exact l3 (List.mem_singleton.mp h)
    · rintro H1 ⟨rs, hD1, hI⟩
      have hE0 : EndsX H1 D rs x.length g.nons (tbl (Vaglrc.spansOf g x) (x.length + 1)) := by
        refine ⟨hD1, hI.len, hI.nd, hI.apart, fun j r hj => ?_⟩
        have hj2 : j < x.length + 1 := by have := (List.getElem?_eq_some_iff.mp hj).1; rw [hI.len] at this; exact this
        obtain ⟨cvs, c1, c2⟩ := hI.row r (List.mem_of_getElem? hj)
        refine ⟨cvs, c1, ?_⟩
        have : (List.range g.nons).map (tbl (Vaglrc.spansOf g x) (x.length + 1) j) = (List.range g.nons).map fun _ => [] := List.map_congr_left fun a _ => if_neg (by omega)
        rw [this]
        exact Paired.mono2 c2 fun v ns ⟨l, a, b, c⟩ => ⟨l, a, b, c.1⟩
      refine ⟨_, rfl, xl, _, rfl, .inl (SqL.of (hI.ex _ _ hx)), _, rfl, _, rfl, _, _, _, _, rfl, RgC.neg ?_ ?_ ?_ ?_, for_rangeC (fun k σ H' => ∃ (f' : Nat → Nat → List Nat) (v4 : Option V), σ = [some (vN g.nons), some rw, some (.ref xl), some (.ref D), v4, none] ∧ Ex H H' ∧ EndsX H' D rs x.length g.nons f' ∧ ∀ j a, f' j a = tbl (Vaglrc.spansOf g x) (x.length + 1 - k) j a) ⟨_, none, rfl, hI.ex, hE0, fun _ _ => rfl⟩ ?_ ?_⟩
      · rw [List.length_map]; omega
      · rw [List.length_map]; omega
      · omega
      · omega
      · rintro k σ H2 hk ⟨f', v4, rfl, e2, hE2, hf'⟩
        rw [List.length_map] at hk ⊢
        have hk' : k ≤ x.length := by omega
        have hat : ((x.length : Int) + (k : Nat) * (-1)) = ((x.length - k : Nat) : Int) := by omega
        rw [hat]
        refine ⟨_, rfl, _, rfl, _, rfl, _, rfl, H, D, rs, rw, .ref xl, x.length - k, x.length, g, x, rules, f', rfl, e2, hI.fresh, hE2, fun j a => ?_, hR, ⟨xl, rfl, hx⟩, ok, rfl, hn24, hm20, by omega, fun H3 f3 e3 hE3 hf3 => ?_⟩
        · rw [hf', show x.length + 1 - k = x.length - k + 1 by omega]
        · exact ⟨f3, _, rfl, e3, hE3, fun j a => by rw [hf3, show x.length + 1 - (k + 1) = x.length - k by omega]⟩
      · rintro σ H2 ⟨f', v4, rfl, e2, hE2, hf'⟩
        refine ⟨_, rfl, ret _ _ e2 ?_⟩
        have hz : (((x.map vN).length : Int) - (-1 : Int)).toNat = x.length + 1 := by rw [List.length_map]; omega
        have hff : f' = endsT g x := by
          funext j a
          rw [hf']
          show tbl _ (x.length + 1 - (((x.map vN).length : Int) - -1).toNat) j a = _
          rw [hz, Nat.sub_self]
          exact if_pos (Nat.zero_le _)
        rw [← hff]
        exact hE2.toV
end
end TW
set_option Elab.async false
set_option linter.all false
set_option maxRecDepth 100000
set_option maxHeartbeats 4000000
namespace TW
open PySem PySem.Spec PyProof.Rows L2
open Vaglrc (Sym Rule Grammar Node)
open TR (symF PathF tbl Up WfG comeTo Path)
/-! ### a list that grows, its members apart from it -/
theorem del_upd_eq {H : Hp} {p : Addr} {o : HO} : del (upd H p o) p = del H p := by
  funext b
  by_cases e : b = p
  · subst e; rw [del_same, del_same]
  · rw [del_ne e, del_ne e, upd_ne e]
theorem ex_del {H0 H : Hp} {p : Addr} (e : Ex H0 H) (h : H0 p = none) : Ex H0 (del H p) := fun b u q => by
  rw [del_ne (ne_of_none q h)]; exact e _ _ q
def MList {α : Type} (P : Hp → V → α → Prop) (H : Hp) (p : Addr) (xs : List α) : Prop := ∃ vs, H p = some (.lst vs) ∧ Paired (P (del H p)) vs xs
section
variable {α : Type} {P : Hp → V → α → Prop} {H H' : Hp} {p : Addr} {xs : List α}
theorem MList.new (h : H p = none) : MList P (upd H p (.lst [])) p [] := ⟨[], upd_same, .nil⟩
theorem MList.mono (hP : ∀ H H' v x, Ex H H' → P H v x → P H' v x) (e : Ex H H') (h : MList P H p xs) : MList P H' p xs := by
  obtain ⟨vs, a, b⟩ := h
  exact ⟨vs, e _ _ a, Paired.mono2 b fun v x => hP _ _ v x (del_mono e)⟩
theorem MList.toV (hP : ∀ H H' v x, Ex H H' → P H v x → P H' v x) (h : MList P H p xs) : ListV P H (.ref p) xs := by
  obtain ⟨vs, a, b⟩ := h
  exact ⟨p, vs, rfl, a, Paired.mono2 b fun v x => hP _ _ v x del_ex⟩
theorem MList.snoc {v : V} {x : α} {vs : List V} (hp : H p = some (.lst vs)) (h : Paired (P (del H p)) vs xs) (hv : P (del H p) v x) : MList P (upd H p (.lst (vs ++ [v]))) p (xs ++ [x]) :=
  ⟨vs ++ [v], upd_same, by rw [del_upd_eq]; exact Paired.snoc h hv⟩
end
theorem Paired.last {α β : Type} {F : α → β → Prop} : ∀ {l₁ : List α} {l₂ : List β} {b : β}, Paired F l₁ (l₂ ++ [b]) → ∃ l a, l₁ = l ++ [a] ∧ Paired F l l₂ ∧ F a b
  | _, [], b, h => by
    cases h with
    | cons r h' => cases h'; exact ⟨[], _, rfl, .nil, r⟩
  | _, c :: l₂, b, h => by
    cases h with
    | cons r h' =>
      obtain ⟨l, a, e, h1, h2⟩ := Paired.last h'
      exact ⟨_ :: l, a, by rw [e]; rfl, .cons r h1, h2⟩
theorem Paired.rev {α β : Type} {F : α → β → Prop} {l₁ : List α} {l₂ : List β} (h : Paired F l₁ l₂) : Paired F l₁.reverse l₂.reverse := by
  induction h with
  | nil => exact .nil
  | cons r _ ih => rw [List.reverse_cons, List.reverse_cons]; exact Paired.snoc ih r
theorem NatsV.del {H : Hp} {v : V} {ns : List Nat} {p : Addr} (h : NatsV H v ns) (hp : v ≠ .ref p) : NatsV (del H p) v ns := by
  obtain ⟨l, rfl, h⟩ := h
  exact ⟨l, rfl, by rw [del_ne (fun e => hp (by rw [e]))]; exact h⟩
theorem symF_T {g : Grammar} {x : List Nat} {s : Sym} {i : Nat} : symF x (endsT g x) s i = Vaglrc.symEnds x (Vaglrc.spansOf g x) s i := by
  cases s <;> rfl
/-- for each number of symbols: the places from which the ones behind so many come to an end -/
def comesAll (x : List Nat) (t : Vaglrc.Spans) (e : Nat) : List Sym → List (List Nat)
  | [] => [[e]]
  | s :: l => comeTo x t e (s :: l) :: comesAll x t e l
theorem comesAll_cons {x : List Nat} {t : Vaglrc.Spans} {e : Nat} : ∀ {l : List Sym}, ∃ r, comesAll x t e l = comeTo x t e l :: r
  | [] => ⟨[], rfl⟩
  | _ :: _ => ⟨_, rfl⟩
theorem comesAll_get {x : List Nat} {t : Vaglrc.Spans} {e : Nat} : ∀ {l : List Sym} {i : Nat}, i ≤ l.length → (comesAll x t e l)[i]? = some (comeTo x t e (l.drop i))
  | [], i, h => by
    have : i = 0 := by simpa using h
    subst this; rfl
  | s :: l, 0, _ => rfl
  | s :: l, i + 1, h => by
    show (comesAll x t e l)[i]? = _
    rw [comesAll_get (by simpa using h)]; rfl
theorem comesAll_len {x : List Nat} {t : Vaglrc.Spans} {e : Nat} : ∀ {l : List Sym}, (comesAll x t e l).length = l.length + 1
  | [] => rfl
  | s :: l => by show (comesAll x t e l).length + 1 = _; rw [comesAll_len]; rfl
/-- the table and the signs at hand -/
structure TabV (H : Hp) (e sg : V) (g : Grammar) (x : List Nat) : Prop where
  e : EndsV H e x.length g.nons (endsT g x)
  s : NatsV H sg x
  n : x.length ≤ 24
  m : g.nons ≤ 20
theorem TabV.mono {H H' : Hp} {e sg : V} {g : Grammar} {x : List Nat} (q : Ex H H') (h : TabV H e sg g x) : TabV H' e sg g x := ⟨h.e.mono q, h.s.mono q, h.n, h.m⟩
section
variable {P : Program} {w : World} {K : PySem.W.Frag} {mg : Str → Option Value} {base : Heap}
def sp_comings : Sp := fun vs H Q _ => ∃ (e sg sy : V) (g : Grammar) (x : List Nat) (l : List Sym) (k : Nat), vs = [e, sg, sy, vN k] ∧ TabV H e sg g x ∧ SymsV H sy l ∧ (∀ s ∈ l, SymIn g.nons s) ∧ k ≤ x.length ∧ l.length ≤ 1000 ∧
  Ret H Q fun v H' => ListV NatsV H' v (comesAll x (Vaglrc.spansOf g x) k l)
abbrev s_comings : Stmt := topS 20
/-- 0 ends, 1 signs, 2 symbols, 3 end, 4 found, 5 symbol, 6 further, 7 places, 8 at, 9 stop -/
theorem sc_comings : FnScope ["ends", "signs", "symbols", "end", "found", "symbol", "further", "places", "at", "stop"] ["ends", "signs", "symbols", "end"] (defScope s_comings) := ⟨rfl, rfl, rfl, by decide +kernel, rfl, by decide +kernel, by decide +kernel⟩
theorem ok_comings {f : Addr} {fd : FuncData} (F : Fun K "comings" "comings" s_comings f fd) (T : Glob mg) (F_symbol_ends : FnC P w K mg base CX0 1 "symbol_ends" ["ends", "signs", "symbol", "at"] sp_symbol_ends) :
    FnOk P w K mg base CX0 2 f fd ["ends", "signs", "symbols", "end"] sp_comings := by
  refine F.ok sc_comings (fun vs H Q E h => ?_) (fun cdv A outer s H vs Q E hr h => ?_)
  · obtain ⟨_, _, _, _, _, _, _, rfl, _⟩ := h
    rfl
  · obtain ⟨e, sg, sy, g, x, l, k, rfl, hT, ⟨sl, svs, rfl, hsl, hsp⟩, hin, hk, hl24, ret⟩ := h
    refine ⟨_, (pss_cons (ps_set (i := 4) sc_comings.nd rfl (Or.inl rfl) (pe_lst (pa_cons (pe_lst (pa_cons (pv 3) pa_nil)) pa_nil)))
    (pss_cons (ps_for PassesOwn.never rfl (pi_reversed (by rfl) T.reversed (pa_cons (pv 2) pa_nil)) (pg_name (i := 5) sc_comings.nd rfl (Or.inl rfl))
    (pss_cons (ps_set (i := 6) sc_comings.nd rfl (Or.inr rfl) (pe_ix ix_list (pv 4) (pe_un un_neg pe_int) (fun _ _ => rfl)))
    (pss_cons (ps_set (i := 7) sc_comings.nd rfl (Or.inl rfl) (pe_lst pa_nil))
    (pss_cons (ps_for PassesOwn.never rfl (pi_range1 (by rfl) T.range (pa_cons (pe_op op_add (pv 3) pe_int) pa_nil)) (pg_name (i := 8) sc_comings.nd rfl (Or.inl rfl))
    (pss_one (ps_if (pt_val (pe_callB (cr_any rfl) (by rfl) T.any (by decide +kernel) (pa_cons (pe_lc (own := [("stop", 9)]) (g := (gName 9)) (tt := tYes) (te := (tOp (rIn K false) (tVar 9) (tVar 6))) rfl sc_comings.nd (pi_list (pe_fc F_symbol_ends (hr.mono (by decide)) pass0 (pa_cons (pv 0) (pa_cons (pv 1) (pa_cons (pv 5) (pa_cons (pv 8) pa_nil)))))) (blkOk_by (own := [("stop", 9)]) (N := ["ends", "signs", "symbols", "end", "found", "symbol", "further", "places", "at", "stop"]) (sc := defScope s_comings) (by decide +kernel)) (fun _ _ _ _ _ => by exact (pg_name (i := 9) sc_comings.nd rfl (Or.inl rfl))) (fun _ _ _ _ _ => pts_nil) (fun _ _ _ _ _ => by exact (pe_cmpR op_in_seq (pv 9) (pv 6) (by rfl)))) pa_nil)))
    (pss_one (ps_expr (pe_bm PySem.F.plainAttrs_list PySem.F.slot_list_append PySem.F.type_list_append mt_append (pv 7) (pa_cons (pv 8) pa_nil))))
    pss_nil)))
    (pss_one (ps_expr (pe_bm PySem.F.plainAttrs_list PySem.F.slot_list_append PySem.F.type_list_append mt_append (pv 4) (pa_cons (pv 7) pa_nil))))))))
    (pss_one (ps_ret (pe_revL (pv 4)))))), ?_⟩
    have hsv : svs.length = l.length := Paired.len hsp
    have hn24 := hT.n
    refine ⟨_, rfl, one_line, fun p0 hp0 => ⟨one_line, fun fl hfl => ?_⟩⟩
    have e1 : Ex H (upd (upd H p0 (.lst [vN k])) fl (.lst [.ref p0])) := (Ex.new hp0).mut ((Ex.new hp0).back hfl)
    have hflH : H fl = none := (Ex.new hp0).back hfl
    have hp0f : p0 ≠ fl := fun q => by rw [q] at hfl; rw [upd_same] at hfl; cases hfl
    refine ⟨_, rfl, sl, _, rfl, SqL.of (e1 _ _ hsl), for_it (walk_rev (xs := svs)) (fun i σ H' => ∃ (v5 v6 v7 v8 v9 : Option V), σ = [some e, some sg, some (.ref sl), some (vN k), some (.ref fl), v5, v6, v7, v8, v9] ∧ Ex H H' ∧ MList NatsV H' fl (comesAll x (Vaglrc.spansOf g x) k (l.drop (l.length - i))).reverse)
      ⟨_, _, _, _, _, rfl, e1, ?_⟩ (fun i σ H' _ ⟨_, _, _, _, _, _, e2, _⟩ => SqL.of (e2 _ _ hsl)) ?_ ?_⟩
    · rw [Nat.sub_zero, List.drop_length]
      refine ⟨[.ref p0], upd_same, .cons ⟨p0, rfl, ?_⟩ .nil⟩
      rw [del_upd_eq, del_ne hp0f]; exact upd_same
    · rintro i v σ Hx H1 hi ⟨v5, v6, v7, v8, v9, rfl, e2, hM⟩ ⟨rfl, hv⟩
      rw [hsv] at hi
      rw [hsv, show l.length - 1 - i = l.length - (i + 1) by omega] at hv
      obtain ⟨s1, hs1, hsv1⟩ := Paired.at' hsp hv
      have hdrop : l.drop (l.length - (i + 1)) = s1 :: l.drop (l.length - i) := by
        have hlt := (List.getElem?_eq_some_iff.mp hs1).1
        rw [List.drop_eq_getElem_cons hlt, show l.length - (i + 1) + 1 = l.length - i by omega]
        rw [List.getElem?_eq_getElem hlt] at hs1
        rw [Option.some.inj hs1]
      obtain ⟨vs, hvs, hpr⟩ := hM
      obtain ⟨cr, hcr⟩ := comesAll_cons (x := x) (t := Vaglrc.spansOf g x) (e := k) (l := l.drop (l.length - i))
      rw [hcr, List.reverse_cons] at hpr
      obtain ⟨vs0, fv, rfl, hpr0, fu, rfl, hfu⟩ := Paired.last hpr
      have hfuf : fu ≠ fl := fun q => by rw [q, del_same] at hfu; cases hfu
      rw [del_ne hfuf] at hfu
      -- further = found[-1]
      refine ⟨_, rfl, _, rfl, fl, _, _, _, rfl, rfl, SqL.of hvs, atI_last _ _, ?_⟩
      refine ⟨nil_line, fun pl hpl => ?_⟩
      have hplf : pl ≠ fl := fun q => by rw [q, hvs] at hpl; cases hpl
      have hplu : pl ≠ fu := fun q => by rw [q, hfu] at hpl; cases hpl
      refine ⟨_, rfl, _, _, rfl, rfl, _, rfl, ?_, ?_, for_range (fun j σ H' => ∃ (v8 v9 : Option V), σ = [some e, some sg, some (.ref sl), some (vN k), some (.ref fl), some v, some (.ref fu), some (.ref pl), v8, v9] ∧ Ex H1 H' ∧
        H' pl = some (.lst (((List.range j).filter fun p => (Vaglrc.symEnds x (Vaglrc.spansOf g x) s1 p).any fun q => decide (q ∈ comeTo x (Vaglrc.spansOf g x) k (l.drop (l.length - i)))).map vN))) ⟨_, _, rfl, Ex.new hpl, upd_same⟩ ?_ ?_⟩
      · omega
      · omega
      · rw [show ((k : Int) + 1).toNat = k + 1 by omega]
        rintro j σ H2 hj ⟨v8, v9, rfl, e3, hpl2⟩
        refine ⟨_, rfl, _, rfl, _, rfl, _, rfl, e, sg, v, x.length, g.nons, endsT g x, x, s1, j, ?_, hT.e.mono (e2.tr e3), hT.s.mono (e2.tr e3), hsv1.mono (e2.tr e3), hin s1 (List.mem_of_getElem? hs1), by omega, ?_⟩
        · rw [show (0 : Int) + (j : Nat) = ((j : Nat) : Int) by omega]; rfl
        rintro v2 H3 e4 ⟨ll, rfl, hll⟩
        rw [symF_T] at hll
        have e13 := e3.tr e4
        refine ⟨ll, rfl, ⟨_, SqL.of hll⟩, fun D hD => ?_⟩
        have hylen : (Vaglrc.symEnds x (Vaglrc.spansOf g x) s1 j).length ≤ x.length + 1 := by
          cases s1 with
          | non a => exact TR.up_length (TR.spans_good.up a j) fun q hq => Nat.lt_succ_of_le (TR.spans_good.lim hq).2.2.2
          | range lo hi =>
            show (match x[j]? with | some b => if lo ≤ b then (if b ≤ hi then [j + 1] else []) else [] | none => []).length ≤ _
            split
            · split
              · split <;> simp
              · simp
            · simp
        refine lcA (K := K) (ys := Vaglrc.symEnds x (Vaglrc.spansOf g x) s1 j) (g := vN) (b := fun _ => true) (c := fun q => .bl (decide (q ∈ comeTo x (Vaglrc.spansOf g x) k (l.drop (l.length - i))))) hD hll (by omega) (fun _ => rfl) (fun _ _ _ _ => evb_yes) (fun q hq H' e' _ R hR => ?_) fun H' e5 hDv => ?_
        · refine ⟨_, rfl, _, rfl, fu, _, rfl, .inl (SqL.of (e' _ _ (e13 _ _ hfu))), rfl, flat_vN _, ?_⟩
          show R (.bl (inV _ _)) _
          rw [inV_vN]
          exact hR _ (Ex.refl _)
        · refine ⟨D, (Vaglrc.symEnds x (Vaglrc.spansOf g x) s1 j).map fun q => decide (q ∈ comeTo x (Vaglrc.spansOf g x) k (l.drop (l.length - i))), rfl, SqL.of (by rw [hDv, filter_true, List.map_map]; rfl), _, rfl, ?_⟩
          rw [List.any_map]
          show if ((Vaglrc.symEnds x (Vaglrc.spansOf g x) s1 j).any fun q => decide (q ∈ comeTo x (Vaglrc.spansOf g x) k (l.drop (l.length - i)))) = true then _ else _
          have e15 := e4.tr e5
          by_cases hc : ((Vaglrc.symEnds x (Vaglrc.spansOf g x) s1 j).any fun q => decide (q ∈ comeTo x (Vaglrc.spansOf g x) k (l.drop (l.length - i)))) = true
          · rw [hc]
            refine iteT ?_
            refine ⟨_, rfl, .inl ⟨rfl, _, SqL.of (e15 _ _ hpl2)⟩, _, rfl, pl, _, _, rfl, rfl, e15 _ _ hpl2, ?_, ?_⟩
            · refine small_lt ?_
              rw [List.length_map]
              have := List.length_filter_le (fun p => (Vaglrc.symEnds x (Vaglrc.spansOf g x) s1 p).any fun q => decide (q ∈ comeTo x (Vaglrc.spansOf g x) k (l.drop (l.length - i)))) (List.range j)
              rw [List.length_range] at this
              omega
            · refine ⟨_, v9, rfl, (e13.tr e5).mut hpl, ?_⟩
              rw [upd_same, List.range_succ, List.filter_append, List.map_append, List.filter_cons, if_pos hc, show (0 : Int) + (j : Nat) = ((j : Nat) : Int) by omega]; rfl
          · rw [Bool.not_eq_true] at hc
            rw [hc]
            refine iteF ?_
            refine ⟨_, v9, rfl, e13.tr e5, ?_⟩
            rw [e15 _ _ hpl2, List.range_succ, List.filter_append, List.filter_cons, if_neg (by rw [hc]; exact Bool.false_ne_true)]
            simp
      · rw [show ((k : Int) + 1).toNat = k + 1 by omega]
        rintro σ H2 ⟨v8, v9, rfl, e3, hpl2⟩
        refine ⟨_, rfl, .inl ⟨rfl, _, SqL.of (e3 _ _ hvs)⟩, _, rfl, fl, _, _, rfl, rfl, e3 _ _ hvs, ?_, ?_⟩
        · refine small_lt ?_
          rw [List.length_append]
          have h1 := Paired.len hpr0
          have h2 := congrArg List.length hcr
          rw [comesAll_len, List.length_cons] at h2
          rw [List.length_reverse] at h1
          have h3 : (l.drop (l.length - i)).length = l.length - (l.length - i) := List.length_drop
          simp only [List.length_cons, List.length_nil]
          omega
        · refine ⟨_, _, _, _, _, rfl, (e2.tr e3).mut hflH, ?_⟩
          rw [hdrop]
          show MList NatsV _ fl (comeTo x (Vaglrc.spansOf g x) k (s1 :: l.drop (l.length - i)) :: comesAll x (Vaglrc.spansOf g x) k (l.drop (l.length - i))).reverse
          rw [List.reverse_cons, hcr, List.reverse_cons]
          refine MList.snoc (e3 _ _ hvs) (Paired.mono2 hpr fun v ns q => NatsV.mono (del_mono e3) q) ⟨pl, rfl, ?_⟩
          rw [del_ne hplf, hpl2]
          rfl
    · rintro σ H1 ⟨v5, v6, v7, v8, v9, rfl, e2, hM⟩
      rw [hsv, Nat.sub_self, List.drop_zero] at hM
      obtain ⟨p, vs, hpe, h1, h2⟩ := MList.toV (P := NatsV) (fun _ _ _ _ => NatsV.mono) hM
      cases hpe
      refine ⟨_, rfl, fl, vs, rfl, SqL.of h1, fun r hr => ?_⟩
      refine ret _ _ (e2.tr (Ex.new hr)) ⟨r, vs.reverse, rfl, upd_same, ?_⟩
      have := Paired.rev h2
      rw [List.reverse_reverse] at this
      exact Paired.mono2 this fun v ns => NatsV.mono (Ex.new hr)
end
end TW
set_option Elab.async false
set_option linter.all false
set_option maxRecDepth 100000
set_option maxHeartbeats 4000000
namespace TW
open PySem PySem.Spec PyProof.Rows L2
open Vaglrc (Sym Rule Grammar Node)
open TR (symF PathF tbl Up WfG comeTo Path Kid)
theorem vN_eq {a b : Nat} : decide (vN a = vN b) = decide (a = b) := int_eq
theorem cutV_from {xs : List V} {a : Nat} : cutV xs (some (a : Int)) none = xs.drop a := by
  unfold cutV
  rw [HT.sIx_nat, HT.sIx_none, List.take_of_length_le (by rw [List.length_drop]; omega)]
  by_cases h : a ≤ xs.length
  · congr 1; omega
  · rw [List.drop_eq_nil_of_le (by omega), List.drop_eq_nil_of_le (by omega)]
theorem cutV_both {xs : List V} {a b : Nat} (h : a ≤ b) : cutV xs (some (a : Int)) (some (b : Int)) = (xs.drop a).take (b - a) := by
  unfold cutV
  rw [HT.sIx_nat, HT.sIx_nat]
  by_cases ha : a ≤ xs.length
  · rw [show min a xs.length = a by omega]
    by_cases hb : b ≤ xs.length
    · rw [show min b xs.length = b by omega]
    · rw [show min b xs.length = xs.length by omega, List.take_of_length_le (by rw [List.length_drop]; omega), List.take_of_length_le (by rw [List.length_drop]; omega)]
  · rw [show min a xs.length = xs.length by omega, List.drop_eq_nil_of_le (Nat.le_refl _), List.drop_eq_nil_of_le (by omega)]; simp
theorem cutV_to {xs : List V} {b : Nat} : cutV xs none (some (b : Int)) = xs.take b := by
  unfold cutV
  rw [HT.sIx_nat, HT.sIx_none, List.drop_zero, Nat.sub_zero]
  by_cases hb : b ≤ xs.length
  · rw [show min b xs.length = b by omega]
  · rw [show min b xs.length = xs.length by omega, List.take_of_length_le (Nat.le_refl _), List.take_of_length_le (by omega)]
/-- a piece of work -/
def WorkV (H : Hp) (v : V) (m : Node) : Prop := ∃ a, v = .ref a ∧ H a = some (.tup [vN m.1, vN m.2.1, vN m.2.2])
theorem WorkV.mono {H H' : Hp} {v : V} {m : Node} (e : Ex H H') (h : WorkV H v m) : WorkV H' v m := by
  obtain ⟨a, q, p⟩ := h; exact ⟨a, q, e _ _ p⟩
theorem WorkV.del {H : Hp} {v : V} {m : Node} {p : Addr} {vs : List V} (h : WorkV H v m) (hp : H p = some (.lst vs)) : WorkV (del H p) v m := by
  obtain ⟨a, rfl, h⟩ := h
  refine ⟨a, rfl, ?_⟩
  rw [del_ne fun e => by rw [e, hp] at h; cases h]
  exact h
/-- the pieces of work beneath a rule -/
def KidR (x : List Nat) (t : Vaglrc.Spans) (l : List Sym) (b k : Nat) (m : Node) : Prop := ∃ l1 l2, l = l1 ++ Sym.non m.1 :: l2 ∧ Path x t l1 b m.2.1 ∧ m.2.2 ∈ Vaglrc.ends t m.1 m.2.1 ∧ Path x t l2 m.2.2 k
def KidI (x : List Nat) (t : Vaglrc.Spans) (l : List Sym) (b k i : Nat) (m : Node) : Prop := ∃ j < i, l[j]? = some (.non m.1) ∧ Path x t (l.take j) b m.2.1 ∧ m.2.2 ∈ Vaglrc.ends t m.1 m.2.1 ∧ Path x t (l.drop (j + 1)) m.2.2 k
theorem kidI_all {x : List Nat} {t : Vaglrc.Spans} {l : List Sym} {b k : Nat} {m : Node} : KidI x t l b k l.length m ↔ KidR x t l b k m := by
  constructor
  · rintro ⟨j, hj, h1, h2, h3, h4⟩
    exact ⟨l.take j, l.drop (j + 1), TR.split_at h1, h2, h3, h4⟩
  · rintro ⟨l1, l2, rfl, h2, h3, h4⟩
    refine ⟨l1.length, by simp, by simp, by simpa using h2, h3, ?_⟩
    rw [show (l1 ++ Sym.non m.1 :: l2).drop (l1.length + 1) = l2 by rw [List.drop_append]; simp]
    exact h4
theorem symEnds_len {g : Grammar} {x : List Nat} {s : Sym} {j : Nat} : (Vaglrc.symEnds x (Vaglrc.spansOf g x) s j).length ≤ x.length + 1 := by
  cases s with
  | non a => exact TR.up_length (TR.spans_good.up a j) fun q hq => Nat.lt_succ_of_le (TR.spans_good.lim hq).2.2.2
  | range lo hi =>
    show (match x[j]? with | some b => if lo ≤ b then (if b ≤ hi then [j + 1] else []) else [] | none => []).length ≤ _
    split
    · split
      · split <;> simp
      · simp
    · simp
theorem symEnds_le {g : Grammar} {x : List Nat} {s : Sym} {j q : Nat} (h : q ∈ Vaglrc.symEnds x (Vaglrc.spansOf g x) s j) : j ≤ q ∧ q ≤ x.length := by
  cases s with
  | non a => have := TR.spans_good.lim h; exact ⟨this.2.2.1, this.2.2.2⟩
  | range lo hi =>
    obtain ⟨b, hb, _, _, e⟩ := TR.symEnds_range h
    have := (List.getElem?_eq_some_iff.mp hb).1
    omega
section
variable {P : Program} {w : World} {K : PySem.W.Frag} {mg : Str → Option Value} {base : Heap}
def sp_children : Sp := fun vs H Q _ => ∃ (e sg sy : V) (g : Grammar) (x : List Nat) (l : List Sym) (b k : Nat), vs = [e, sg, sy, vN b, vN k] ∧ TabV H e sg g x ∧ SymsV H sy l ∧ (∀ s ∈ l, SymIn g.nons s) ∧ k ≤ x.length ∧ l.length ≤ 8 ∧
  ∀ H' p ws, Ex H H' → H p = none → ListV WorkV H' (.ref p) ws → (∀ m, m ∈ ws ↔ KidR x (Vaglrc.spansOf g x) l b k m) → ws.length ≤ 5000 → Q (.ref p) H'
abbrev s_children : Stmt := topS 24
/-- 0 ends, 1 signs, 2 symbols, 3 begin, 4 end, 5 back, 6 found, 7 places, 8 symbol, 9 further, 10 at, 11 stop, 12 place -/
theorem sc_children : FnScope ["ends", "signs", "symbols", "begin", "end", "back", "found", "places", "symbol", "further", "at", "stop", "place"] ["ends", "signs", "symbols", "begin", "end"] (defScope s_children) := ⟨rfl, rfl, rfl, by decide +kernel, rfl, by decide +kernel, by decide +kernel⟩
theorem ok_children {f : Addr} {fd : FuncData} (F : Fun K "children" "children" s_children f fd) (T : Glob mg) (F_symbol_ends : FnC P w K mg base CX0 1 "symbol_ends" ["ends", "signs", "symbol", "at"] sp_symbol_ends)
    (F_passed : FnC P w K mg base CX0 2 "passed" ["ends", "signs", "symbol", "places"] sp_passed) (F_comings : FnC P w K mg base CX0 2 "comings" ["ends", "signs", "symbols", "end"] sp_comings) :
    FnOk P w K mg base CX0 3 f fd ["ends", "signs", "symbols", "begin", "end"] sp_children := by
  refine F.ok sc_children (fun vs H Q E h => ?_) (fun cdv A outer s H vs Q E hr h => ?_)
  · obtain ⟨_, _, _, _, _, _, _, _, rfl, _⟩ := h
    rfl
  · obtain ⟨e, sg, sy, g, x, l, b, k, rfl, hT, hsy, hin, hk, hl8, ret⟩ := h
    refine ⟨_, (pss_cons (ps_set (i := 5) sc_children.nd rfl (Or.inl rfl) (pe_fc F_comings (hr.mono (by decide)) pass0 (pa_cons (pv 0) (pa_cons (pv 1) (pa_cons (pv 2) (pa_cons (pv 4) pa_nil))))))
    (pss_cons (ps_set (i := 6) sc_children.nd rfl (Or.inl rfl) (pe_lst pa_nil))
    (pss_cons (ps_setLc (i := 7) (own := [("place", 12)]) (g := (gName 12)) (tt := (tTest (tOp rEq (tVar 12) (tVar 3)))) (te := (tVar 12)) rfl sc_children.nd rfl rfl (sw_true rfl rfl rfl (by decide +kernel)) (pi_list (pe_ix ix_list (pv 5) pe_int (fun _ _ => rfl))) (blkOk_by (own := [("place", 12)]) (N := ["ends", "signs", "symbols", "begin", "end", "back", "found", "places", "symbol", "further", "at", "stop", "place"]) (sc := defScope s_children) (by decide +kernel)) (fun _ _ _ _ _ => by exact (pg_name (i := 12) sc_children.nd rfl (Or.inl rfl))) (fun _ _ _ _ _ => by exact (pts_one (pt_cmpR op_eq (pv 12) (pv 3) (nomark _)))) (fun _ _ _ _ _ => by exact (pv 12)))
    (pss_cons (ps_for PassesOwn.never rfl (pi_zip (by rfl) T.zip (pa_cons (pv 2) (pa_cons (pe_slice sl_list (pv 5) (po_some pe_int) po_none) pa_nil))) (pg_tup rfl (pgs_cons (pg_name (i := 8) sc_children.nd rfl (Or.inl rfl)) (pgs_cons (pg_name (i := 9) sc_children.nd rfl (Or.inr rfl)) pgs_nil)))
    (pss_cons (ps_for PassesOwn.never rfl (pi_list (pv 7)) (pg_name (i := 10) sc_children.nd rfl (Or.inl rfl))
    (pss_one (ps_for PassesOwn.never rfl (pi_list (pe_fc F_symbol_ends (hr.mono (by decide)) pass0 (pa_cons (pv 0) (pa_cons (pv 1) (pa_cons (pv 8) (pa_cons (pv 10) pa_nil)))))) (pg_name (i := 11) sc_children.nd rfl (Or.inl rfl))
    (pss_one (ps_if (PW.pt (pw_and (pt_cmpR op_eq (pe_ix ix_tup (pv 8) pe_int (fun _ _ => rfl)) (pe_gi T.NONTERMINAL) (nomark _)) (pw_and1 (pt_cmpR op_in_seq (pv 11) (pv 9) (by rfl)))))
    (pss_one (ps_expr (pe_bm PySem.F.plainAttrs_list PySem.F.slot_list_append PySem.F.type_list_append mt_append (pv 6) (pa_cons (pe_tup (pa_cons (pe_ix ix_tup (pv 8) pe_int (fun _ _ => rfl)) (pa_cons (pv 10) (pa_cons (pv 11) pa_nil)))) pa_nil))))
    pss_nil)))))
    (pss_one (ps_setLc (i := 7) (own := [("place", 12)]) (g := (gName 12)) (tt := (tTest (tOp (rIn K false) (tVar 12) (tVar 9)))) (te := (tVar 12)) rfl sc_children.nd rfl rfl (sw_true rfl rfl rfl (by decide +kernel)) (pi_list (pe_fc F_passed (hr.mono (by decide)) pass0 (pa_cons (pv 0) (pa_cons (pv 1) (pa_cons (pv 8) (pa_cons (pv 7) pa_nil)))))) (blkOk_by (own := [("place", 12)]) (N := ["ends", "signs", "symbols", "begin", "end", "back", "found", "places", "symbol", "further", "at", "stop", "place"]) (sc := defScope s_children) (by decide +kernel)) (fun _ _ _ _ _ => by exact (pg_name (i := 12) sc_children.nd rfl (Or.inl rfl))) (fun _ _ _ _ _ => by exact (pts_one (pt_cmpR op_in_seq (pv 12) (pv 9) (by rfl)))) (fun _ _ _ _ _ => by exact (pv 12))))))
    (pss_one (ps_ret (pv 6))))))), ?_⟩
    have hn24 := hT.n
    obtain ⟨sl, svs, rfl, hsl, hsp⟩ := id hsy
    have hsv : svs.length = l.length := Paired.len hsp
    -- back = comings(ends, signs, symbols, end)
    refine ⟨_, rfl, _, rfl, _, rfl, _, rfl, e, sg, .ref sl, g, x, l, k, rfl, hT, hsy, hin, hk, by omega, ?_⟩
    rintro bv H1 e1 ⟨bl, bvs, rfl, hbl, hbp⟩
    have hbn : bvs.length = l.length + 1 := by rw [Paired.len hbp, comesAll_len]
    refine ⟨nil_line, fun fo hfo => ?_⟩
    have e2 : Ex H1 (upd H1 fo (.lst [])) := Ex.new hfo
    obtain ⟨c0v, hc0, c0, rfl, hc0l⟩ := Paired.at hbp (comesAll_get (Nat.zero_le _))
    rw [List.drop_zero] at hc0l
    -- places = [place for place in back[0] if place == begin]
    refine ⟨_, rfl, bl, _, _, _, rfl, rfl, SqL.of (e2 _ _ hbl), atI_nat (j := 0) hc0, c0, rfl, ⟨_, SqL.of (e2 _ _ hc0l)⟩, fun D hD => ?_⟩
    have hcl : (comeTo x (Vaglrc.spansOf g x) k l).length ≤ x.length + 1 := by
      cases l with
      | nil => simp [comeTo]
      | cons s l =>
        unfold comeTo
        have := List.length_filter_le (fun p => (Vaglrc.symEnds x (Vaglrc.spansOf g x) s p).any fun q => decide (q ∈ comeTo x (Vaglrc.spansOf g x) k l)) (List.range (k + 1))
        rw [List.length_range] at this
        omega
    refine lcA (K := K) (ys := comeTo x (Vaglrc.spansOf g x) k l) (g := vN) (b := fun p => decide (p = b)) (c := vN) hD (e2 _ _ hc0l) (by omega) (fun _ => rfl) (fun p hp H' e' R hR => ?_) (fun p hp H' e' _ R hR => ?_) fun H2 e3 hDv => ?_
    · refine ⟨_, rfl, _, rfl, rfl, _, rfl, ?_⟩
      rw [vN_eq]
      exact hR _ (Ex.refl _)
    · exact ⟨_, rfl, hR _ (Ex.refl _)⟩
    have gd : TR.Good g x (Vaglrc.spansOf g x) := TR.spans_good
    have hDf : D ≠ fo := fun q => by rw [q, upd_same] at hD; cases hD
    have hb2 := (e2.tr e3) _ _ hbl
    have hfoH : H fo = none := e1.back hfo
    have hfo2 : H2 fo = some (.lst []) := e3 _ _ upd_same
    have hblf : bl ≠ fo := fun q => by rw [q, hfo] at hbl; cases hbl
    refine ⟨_, rfl, _, rfl, 1, rfl, bl, bvs, rfl, SqL.of hb2, fun bs hbs => ?_⟩
    have e12 : Ex H1 (upd H2 bs (.lst (cutV bvs (some 1) none))) := (e2.tr e3).tr (Ex.new hbs)
    have hbsf : bs ≠ fo := fun q => by rw [q, hfo2] at hbs; cases hbs
    have hcut : cutV bvs (some 1) none = bvs.drop 1 := cutV_from (a := 1)
    refine ⟨sl, bs, svs, _, rfl, SqL.of ((e1.tr e12) _ _ hsl), SqL.of upd_same, for_it (walk_zip (n := l.length) (xs := svs) (ys := cutV bvs (some 1) none) ?_) (fun i σ H' => ∃ (pa : Addr) (ps : List Nat) (ws : List Node) (v8 v9 v10 v11 : Option V),
      σ = [some e, some sg, some (.ref sl), some (vN b), some (vN k), some (.ref bl), some (.ref fo), some (.ref pa), v8, v9, v10, v11, none] ∧ Ex H1 H' ∧ H' bs = some (.lst (cutV bvs (some 1) none)) ∧ H' pa = some (.lst (ps.map vN)) ∧ pa ≠ fo ∧
      (∀ p, p ∈ ps ↔ Path x (Vaglrc.spansOf g x) (l.take i) b p ∧ Path x (Vaglrc.spansOf g x) (l.drop i) p k) ∧ ps.length ≤ 25 ∧ MList WorkV H' fo ws ∧ (∀ m, m ∈ ws ↔ KidI x (Vaglrc.spansOf g x) l b k i m) ∧ ws.length ≤ i * 625)
      ⟨D, _, [], none, none, none, none, rfl, e12, upd_same, Ex.new hbs _ _ hDv, hDf, ?_, ?_, ?_, ?_, by simp⟩ (fun i σ H' _ ⟨_, _, _, _, _, _, _, _, e4, hbs4, _⟩ => ⟨SqL.of ((e1.tr e4) _ _ hsl), SqL.of hbs4⟩) ?_ ?_⟩
    · rw [hcut, List.length_drop]; omega
    · intro p
      rw [List.mem_filter, TR.mem_comeTo gd, decide_eq_true_eq]
      exact ⟨fun ⟨h1, h2⟩ => ⟨h2.symm, h1⟩, fun ⟨h1, h2⟩ => ⟨h2, h1.symm⟩⟩
    · have := List.length_filter_le (fun p => decide (p = b)) (comeTo x (Vaglrc.spansOf g x) k l)
      omega
    · exact MList.mono (P := WorkV) (fun _ _ _ _ => WorkV.mono) (Ex.new hbs) ⟨[], hfo2, .nil⟩
    · exact fun m => ⟨fun h => by simp at h, fun ⟨j, hj, _⟩ => by omega⟩
    · rintro i v σ H3 H3' hi ⟨pa, ps, ws, v8, v9, v10, v11, rfl, e4, hbs4, hpa, hpaf, hps, hpl, hM, hW, hWl⟩ ⟨Tt, va, vb, rfl, hTn, rfl, hva, hvb⟩
      obtain ⟨s1, hs1, hsv1⟩ := Paired.at' hsp hva
      have hs1m := List.mem_of_getElem? hs1
      have hvb : (cutV bvs (some 1) none)[i]? = some vb := hvb
      rw [hcut, List.getElem?_drop, Nat.add_comm] at hvb
      obtain ⟨fu', hfu', fu, rfl, hfu⟩ := Paired.at' hbp hvb
      rw [comesAll_get (by omega)] at hfu'
      cases hfu'
      obtain ⟨sa, rfl, hsa⟩ := hsv1
      have hTf : Tt ≠ fo := fun q => by obtain ⟨vs, h1, _⟩ := hM; rw [q, h1] at hTn; cases hTn
      have hTb : Tt ≠ bs := fun q => by rw [q, hbs4] at hTn; cases hTn
      have e5 : Ex H3 (upd H3 Tt (.tup [.ref sa, .ref fu])) := Ex.new hTn
      have e45 := e4.tr e5
      have hfuf : fu ≠ fo := fun q => by rw [q, hfo] at hfu; cases hfu
      refine ⟨Tt, _, rfl, SqT.of upd_same, rfl, _, _, rfl, _, _, rfl, rfl, ?_⟩
      -- for at in places
      refine ⟨_, rfl, pa, rfl, ⟨_, SqL.of (e5 _ _ hpa)⟩, for_list (K := K) (a := pa) (xs := ps.map vN) (fun c σ H' => ∃ (ws2 : List Node) (v10 v11 : Option V), σ = [some e, some sg, some (.ref sl), some (vN b), some (vN k), some (.ref bl), some (.ref fo), some (.ref pa), some (.ref sa), some (.ref fu), v10, v11, none] ∧ Ex H1 H' ∧ H' bs = some (.lst (cutV bvs (some 1) none)) ∧
        H' pa = some (.lst (ps.map vN)) ∧ MList WorkV H' fo ws2 ∧ (∀ m, m ∈ ws2 ↔ m ∈ ws ∨ (s1 = .non m.1 ∧ m.2.1 ∈ ps.take c ∧ m.2.2 ∈ Vaglrc.symEnds x (Vaglrc.spansOf g x) s1 m.2.1 ∧ m.2.2 ∈ comeTo x (Vaglrc.spansOf g x) k (l.drop (i + 1)))) ∧ ws2.length ≤ ws.length + c * 25)
        ⟨ws, v10, v11, rfl, e45, e5 _ _ hbs4, e5 _ _ hpa, MList.mono (P := WorkV) (fun _ _ _ _ => WorkV.mono) e5 hM, fun m => by simp, by omega⟩ (fun c σ H' _ ⟨_, _, _, _, _, _, h, _⟩ => SqL.of h) ?_ ?_⟩
      · rintro c v σ H4 hc ⟨ws2, v10, v11, rfl, e6, hbs6, hpa6, hM2, hW2, hWl2⟩
        obtain ⟨at_, hat, rfl⟩ := get_map_vN hc
        have hatm := (hps at_).mp (List.mem_of_getElem? hat)
        have hatn := TR.path_le gd hatm.2
        refine ⟨_, rfl, _, rfl, _, rfl, _, rfl, e, sg, .ref sa, x.length, g.nons, endsT g x, x, s1, at_, rfl, hT.e.mono (e1.tr e6), hT.s.mono (e1.tr e6), ⟨sa, rfl, (e1.tr e6) _ _ hsa⟩, hin s1 hs1m, by omega, ?_⟩
        rintro v2 H5 e7 ⟨ll, rfl, hll⟩
        rw [symF_T] at hll
        have hyl := symEnds_len (g := g) (x := x) (s := s1) (j := at_)
        -- for stop in symbol_ends(..)
        refine ⟨ll, rfl, ⟨_, SqL.of hll⟩, for_list (K := K) (a := ll) (xs := (Vaglrc.symEnds x (Vaglrc.spansOf g x) s1 at_).map vN) (fun d σ H' => ∃ (ws3 : List Node) (v11 : Option V), σ = [some e, some sg, some (.ref sl), some (vN b), some (vN k), some (.ref bl), some (.ref fo), some (.ref pa), some (.ref sa), some (.ref fu), some (vN at_), v11, none] ∧ Ex H1 H' ∧ H' bs = some (.lst (cutV bvs (some 1) none)) ∧
          H' pa = some (.lst (ps.map vN)) ∧ H' ll = some (.lst ((Vaglrc.symEnds x (Vaglrc.spansOf g x) s1 at_).map vN)) ∧ MList WorkV H' fo ws3 ∧ (∀ m, m ∈ ws3 ↔ m ∈ ws2 ∨ (s1 = .non m.1 ∧ m.2.1 = at_ ∧ m.2.2 ∈ (Vaglrc.symEnds x (Vaglrc.spansOf g x) s1 at_).take d ∧ m.2.2 ∈ comeTo x (Vaglrc.spansOf g x) k (l.drop (i + 1)))) ∧ ws3.length ≤ ws2.length + d)
          ⟨ws2, v11, rfl, e6.tr e7, e7 _ _ hbs6, e7 _ _ hpa6, hll, MList.mono (P := WorkV) (fun _ _ _ _ => WorkV.mono) e7 hM2, fun m => by simp, by omega⟩ (fun d σ H' _ ⟨_, _, _, _, _, _, h, _⟩ => SqL.of h) ?_ ?_⟩
        · rintro d v σ H6 hd ⟨ws3, v11, rfl, e8, hbs8, hpa8, hll8, hM3, hW3, hWl3⟩
          obtain ⟨st, hst, rfl⟩ := get_map_vN hd
          have hdl := (List.getElem?_eq_some_iff.mp hst).1
          have htk : (Vaglrc.symEnds x (Vaglrc.spansOf g x) s1 at_).take (d + 1) = (Vaglrc.symEnds x (Vaglrc.spansOf g x) s1 at_).take d ++ [st] := by rw [List.take_succ, hst]; rfl
          refine ⟨_, rfl, sa, _, _, _, rfl, rfl, SqT.of ((e1.tr e8) _ _ hsa), atI_nat (j := 0) rfl, rfl, _, rfl, ?_⟩
          have skip : ¬ (∃ a, s1 = .non a ∧ st ∈ comeTo x (Vaglrc.spansOf g x) k (l.drop (i + 1))) → ∃ (ws3' : List Node) (v11' : Option V), [some e, some sg, some (.ref sl), some (vN b), some (vN k), some (.ref bl), some (.ref fo), some (.ref pa), some (.ref sa), some (.ref fu), some (vN at_), some (vN st), none] = [some e, some sg, some (.ref sl), some (vN b), some (vN k), some (.ref bl), some (.ref fo), some (.ref pa), some (.ref sa), some (.ref fu), some (vN at_), v11', none] ∧ Ex H1 H6 ∧ H6 bs = some (.lst (cutV bvs (some 1) none)) ∧
              H6 pa = some (.lst (ps.map vN)) ∧ H6 ll = some (.lst ((Vaglrc.symEnds x (Vaglrc.spansOf g x) s1 at_).map vN)) ∧ MList WorkV H6 fo ws3' ∧ (∀ m, m ∈ ws3' ↔ m ∈ ws2 ∨ (s1 = .non m.1 ∧ m.2.1 = at_ ∧ m.2.2 ∈ (Vaglrc.symEnds x (Vaglrc.spansOf g x) s1 at_).take (d + 1) ∧ m.2.2 ∈ comeTo x (Vaglrc.spansOf g x) k (l.drop (i + 1)))) ∧ ws3'.length ≤ ws2.length + (d + 1) := fun hno => by
            refine ⟨ws3, _, rfl, e8, hbs8, hpa8, hll8, hM3, fun m => ?_, by omega⟩
            rw [hW3, htk]
            constructor
            · rintro (h | ⟨h1, h2, h3, h4⟩)
              · exact .inl h
              · exact .inr ⟨h1, h2, List.mem_append_left _ h3, h4⟩
            · rintro (h | ⟨h1, h2, h3, h4⟩)
              · exact .inl h
              · rcases List.mem_append.mp h3 with h3 | h3
                · exact .inr ⟨h1, h2, h3, h4⟩
                · rw [List.mem_singleton] at h3
                  exact absurd ⟨_, h1, h3 ▸ h4⟩ hno
          cases s1 with
          | range lo hi =>
            refine iteF ?_
            refine iteF ?_
            exact skip fun ⟨a, q, _⟩ => by cases q
          | non a =>
            refine iteT ?_
            refine ⟨_, rfl, _, rfl, fu, _, rfl, .inl (SqL.of (e8 _ _ hfu)), rfl, flat_vN _, _, rfl, ?_⟩
            show if inV _ _ = true then _ else _
            rw [inV_vN]
            by_cases hm : st ∈ comeTo x (Vaglrc.spansOf g x) k (l.drop (i + 1))
            · rw [decide_eq_true hm]
              refine iteT ?_
              obtain ⟨vs3, hv3, hp3⟩ := hM3
              have hl3 := Paired.len hp3
              refine ⟨_, rfl, .inl ⟨rfl, _, SqL.of hv3⟩, _, rfl, sa, _, _, _, rfl, rfl, SqT.of ((e1.tr e8) _ _ hsa), atI_nat (j := 1) rfl, _, rfl, _, rfl, ?_⟩
              refine ⟨three_line, fun tp htp => ?_⟩
              have e9 : Ex H6 (upd H6 tp (.tup [vN a, vN at_, vN st])) := Ex.new htp
              have htf : tp ≠ fo := fun q => by rw [q, hv3] at htp; cases htp
              have hllf : ll ≠ fo := fun q => by
                rw [q, hv3] at hll8
                have q2 := HO.lst.inj (Option.some.inj hll8)
                cases vs3 with
                | nil =>
                  have := congrArg List.length q2
                  rw [List.length_map, List.length_nil] at this
                  omega
                | cons v vs =>
                  cases hp3 with
                  | cons r _ =>
                    obtain ⟨ad, hv, _⟩ := r
                    rw [hv] at q2
                    cases hq : Vaglrc.symEnds x (Vaglrc.spansOf g x) (.non a) at_ with
                    | nil => rw [hq] at q2; cases q2
                    | cons y ys => rw [hq] at q2; cases q2
              have hn3 : ws3.length < 1000000 := by
                have : i ≤ 8 := by omega
                have hc1 : c < ps.length := (List.getElem?_eq_some_iff.mp hat).1
                have : i * 625 ≤ 5000 := Nat.mul_le_mul_right 625 this
                omega
              refine ⟨fo, vs3, _, rfl, rfl, e9 _ _ hv3, small_lt (by omega), ?_⟩
              refine ⟨ws3 ++ [(a, at_, st)], _, rfl, (e8.tr e9).mut hfo, by rw [upd_ne hbsf]; exact e9 _ _ hbs8, by rw [upd_ne hpaf]; exact e9 _ _ hpa8, by rw [upd_ne hllf]; exact e9 _ _ hll8, ?_, fun m => ?_, ?_⟩
              · refine MList.snoc (e9 _ _ hv3) (Paired.mono2 hp3 fun v m q => WorkV.mono (del_mono e9) q) ⟨tp, rfl, ?_⟩
                rw [del_ne htf]; exact upd_same
              · rw [List.mem_append, hW3, htk, List.mem_singleton]
                constructor
                · rintro ((h | ⟨h1, h2, h3, h4⟩) | h)
                  · exact .inl h
                  · exact .inr ⟨h1, h2, List.mem_append_left _ h3, h4⟩
                  · subst h
                    exact .inr ⟨rfl, rfl, List.mem_append_right _ (List.mem_singleton.mpr rfl), hm⟩
                · rintro (h | ⟨h1, h2, h3, h4⟩)
                  · exact .inl (.inl h)
                  · rcases List.mem_append.mp h3 with h5 | h5
                    · exact .inl (.inr ⟨h1, h2, h5, h4⟩)
                    · rw [List.mem_singleton] at h5
                      refine .inr ?_
                      obtain ⟨m1, m2, m3⟩ := m
                      cases h1
                      simp only at h2 h5
                      rw [h2, h5]
              · rw [List.length_append, List.length_singleton]; omega
            · rw [decide_eq_false hm]
              refine iteF ?_
              exact skip fun ⟨a, _, q⟩ => hm q
        · rintro σ H6 ⟨ws3, v11, rfl, e8, hbs8, hpa8, hll8, hM3, hW3, hWl3⟩
          rw [List.length_map, List.take_length] at hW3
          rw [List.length_map] at hWl3
          refine ⟨ws3, _, _, rfl, e8, hbs8, hpa8, hM3, fun m => ?_, by rw [Nat.add_mul]; omega⟩
          rw [hW3, hW2, List.take_succ, hat]
          simp only [Option.toList_some, List.mem_append, List.mem_singleton]
          constructor
          · rintro ((h | ⟨h1, h2, h3, h4⟩) | ⟨h1, h2, h3, h4⟩)
            · exact .inl h
            · exact .inr ⟨h1, .inl h2, h3, h4⟩
            · exact .inr ⟨h1, .inr h2, h2 ▸ h3, h4⟩
          · rintro (h | ⟨h1, h2 | h2, h3, h4⟩)
            · exact .inl (.inl h)
            · exact .inl (.inr ⟨h1, h2, h3, h4⟩)
            · exact .inr ⟨h1, h2, h2 ▸ h3, h4⟩
      · rintro σ H4 ⟨ws2, v10, v11, rfl, e6, hbs6, hpa6, hM2, hW2, hWl2⟩
        rw [List.length_map, List.take_length] at hW2
        rw [List.length_map] at hWl2
        -- places = [place for place in passed(..) if place in further]
        refine ⟨_, rfl, _, rfl, _, rfl, _, rfl, e, sg, .ref sa, .ref pa, x.length, g.nons, endsT g x, x, s1, ps, rfl, hT.e.mono (e1.tr e6), hT.s.mono (e1.tr e6), ⟨sa, rfl, (e1.tr e6) _ _ hsa⟩, hin s1 hs1m, rfl, by omega, ⟨pa, rfl, hpa6⟩, fun p hp => ?_, ?_⟩
        · have := TR.path_le gd ((hps p).mp hp).2
          refine ⟨by omega, fun j hj => ?_⟩
          rw [symF_T] at hj
          exact (symEnds_le hj).2
        rintro v2 H5 e7 ⟨ql, rfl, hql⟩
        refine ⟨ql, rfl, ⟨_, SqL.of hql⟩, fun D2 hD2 => ?_⟩
        have hqlen : (passF x (endsT g x) s1 ps).length ≤ x.length + 1 := by
          have := List.length_filter_le (fun j => ps.any fun i => decide (j ∈ symF x (endsT g x) s1 i)) (List.range (x.length + 1))
          rw [List.length_range] at this
          exact this
        have hD2f : D2 ≠ fo := fun q => by
          obtain ⟨vs, h1, _⟩ := hM2
          rw [q, e7 _ _ h1] at hD2; cases hD2
        refine lcA (K := K) (ys := passF x (endsT g x) s1 ps) (g := vN) (b := fun p => decide (p ∈ comeTo x (Vaglrc.spansOf g x) k (l.drop (i + 1)))) (c := vN) hD2 hql (by omega) (fun _ => rfl) (fun p hp H' e' R hR => ?_) (fun p hp H' e' _ R hR => ?_) fun H7 e8 hDv => ?_
        · refine ⟨_, rfl, _, rfl, fu, _, rfl, .inl (SqL.of (e' _ _ ((e6.tr e7) _ _ hfu))), rfl, flat_vN _, _, rfl, ?_⟩
          show R (inV _ _) _
          rw [inV_vN]
          exact hR _ (Ex.refl _)
        · exact ⟨_, rfl, hR _ (Ex.refl _)⟩
        · have e78 := e7.tr e8
          have hlf := List.length_filter_le (fun p => decide (p ∈ comeTo x (Vaglrc.spansOf g x) k (l.drop (i + 1)))) (passF x (endsT g x) s1 ps)
          refine ⟨D2, (passF x (endsT g x) s1 ps).filter fun p => decide (p ∈ comeTo x (Vaglrc.spansOf g x) k (l.drop (i + 1))), ws2, _, _, _, _, rfl, e6.tr e78, e78 _ _ hbs6, hDv, hD2f, fun p => ?_, by omega, MList.mono (P := WorkV) (fun _ _ _ _ => WorkV.mono) e78 hM2, fun m => ?_, ?_⟩
          · have hli : i < l.length := (List.getElem?_eq_some_iff.mp hs1).1
            have hgi : l[i] = s1 := by rw [List.getElem?_eq_getElem hli] at hs1; exact Option.some.inj hs1
            rw [List.mem_filter, passF_mem, decide_eq_true_eq, TR.mem_comeTo gd, List.take_succ, hs1, Option.toList_some, TR.path_append]
            constructor
            · rintro ⟨⟨h1, q, hq, h2⟩, h3⟩
              rw [symF_T] at h2
              exact ⟨⟨q, ((hps q).mp hq).1, p, h2, rfl⟩, h3⟩
            · rintro ⟨⟨q, h1, p', h2, h4⟩, h3⟩
              have h4' : p' = p := h4
              subst h4'
              refine ⟨⟨(symEnds_le h2).2, q, (hps q).mpr ⟨h1, ?_⟩, by rw [symF_T]; exact h2⟩, h3⟩
              rw [List.drop_eq_getElem_cons hli, hgi]
              exact ⟨p', h2, h3⟩
          · rw [hW2, hW]
            constructor
            · rintro (⟨j, hj, h⟩ | ⟨h1, h2, h3, h4⟩)
              · exact ⟨j, by omega, h⟩
              · refine ⟨i, by omega, by rw [hs1, h1], ((hps _).mp h2).1, ?_, (TR.mem_comeTo gd).mp h4⟩
                rw [h1] at h3; exact h3
            · rintro ⟨j, hj, h1, h2, h3, h4⟩
              by_cases hji : j = i
              · subst hji
                rw [hs1] at h1
                have h1' := Option.some.inj h1
                refine .inr ⟨h1', (hps _).mpr ⟨h2, ?_⟩, by rw [h1']; exact h3, (TR.mem_comeTo gd).mpr h4⟩
                have hli : j < l.length := (List.getElem?_eq_some_iff.mp hs1).1
                have hgi : l[j] = s1 := by rw [List.getElem?_eq_getElem hli] at hs1; exact Option.some.inj hs1
                rw [List.drop_eq_getElem_cons hli, hgi, h1']
                exact ⟨_, h3, h4⟩
              · exact .inl ⟨j, by omega, h1, h2, h3, h4⟩
          · have : ps.length * 25 ≤ 625 := Nat.mul_le_mul_right 25 hpl
            rw [Nat.add_mul]; omega
    · rintro σ H3 ⟨pa, ps, ws, v8, v9, v10, v11, rfl, e4, hbs4, hpa, hpaf, hps, hpl, hM, hW, hWl⟩
      refine ⟨_, rfl, ret H3 fo ws (e1.tr e4) hfoH (MList.toV (P := WorkV) (fun _ _ _ _ => WorkV.mono) hM) (fun m => (hW m).trans kidI_all) (by omega)⟩
end
end TW
set_option Elab.async false
set_option linter.all false
set_option maxRecDepth 100000
set_option maxHeartbeats 4000000
namespace TW
open PySem PySem.Spec PyProof.Rows L2
open Vaglrc (Sym Rule Grammar Node)
open TR (symF PathF tbl Up WfG comeTo Path Kid Same Star)
theorem kid_of {g : Grammar} {rules : List (Rule × Int)} (ok : RulesOk g rules) {x : List Nat} {t : Vaglrc.Spans} {n m : Node} : Kid g x t n m ↔ ∃ r ∈ rules, r.1.lhs = n.1 ∧ KidR x t r.1.rhs n.2.1 n.2.2 m := by
  unfold Kid KidR
  rw [← ok.map]
  constructor
  · rintro ⟨r, hr, h⟩
    obtain ⟨r', hr', rfl⟩ := List.mem_map.mp hr
    exact ⟨r', hr', h⟩
  · rintro ⟨r, hr, h⟩
    exact ⟨r.1, List.mem_map_of_mem hr, h⟩
section
variable {P : Program} {w : World} {K : PySem.W.Frag} {mg : Str → Option Value} {base : Heap}
def sp_beneath : Sp := fun vs H Q _ => ∃ (e sg rw wv : V) (g : Grammar) (x : List Nat) (rules : List (Rule × Int)) (n : Node), vs = [e, sg, rw, wv] ∧ TabV H e sg g x ∧ RulesV H rw rules ∧ RulesOk g rules ∧ WorkV H wv n ∧ n.2.2 ≤ x.length ∧
  ∀ H' p ws, Ex H H' → H p = none → ListV WorkV H' (.ref p) ws → (∀ m, m ∈ ws ↔ Kid g x (Vaglrc.spansOf g x) n m) → ws.length ≤ 500000 → Q (.ref p) H'
abbrev s_beneath : Stmt := topS 25
/-- 0 ends, 1 signs, 2 rules, 3 work, 4 found, 5 nonterminal, 6 symbols, 7 hole -/
theorem sc_beneath : FnScope ["ends", "signs", "rules", "work", "found", "nonterminal", "symbols", "hole"] ["ends", "signs", "rules", "work"] (defScope s_beneath) := ⟨rfl, rfl, rfl, by decide +kernel, rfl, by decide +kernel, by decide +kernel⟩
theorem ok_beneath {f : Addr} {fd : FuncData} (F : Fun K "beneath" "beneath" s_beneath f fd) (T : Glob mg) (F_children : FnC P w K mg base CX0 3 "children" ["ends", "signs", "symbols", "begin", "end"] sp_children) :
    FnOk P w K mg base CX0 4 f fd ["ends", "signs", "rules", "work"] sp_beneath := by
  refine F.ok sc_beneath (fun vs H Q E h => ?_) (fun cdv A outer s H vs Q E hr h => ?_)
  · obtain ⟨_, _, _, _, _, _, _, _, rfl, _⟩ := h
    rfl
  · obtain ⟨e, sg, rw, wv, g, x, rules, n, rfl, hT, ⟨rl, rvs, rfl, hrl, hrp⟩, ok, ⟨wa, rfl, hwa⟩, hn2, ret⟩ := h
    refine ⟨_, (pss_cons (ps_set (i := 4) sc_beneath.nd rfl (Or.inl rfl) (pe_lst pa_nil))
    (pss_cons (ps_for PassesOwn.never rfl (pi_list (pv 2)) (pg_tup rfl (pgs_cons (pg_name (i := 5) sc_beneath.nd rfl (Or.inl rfl)) (pgs_cons (pg_name (i := 6) sc_beneath.nd rfl (Or.inl rfl)) (pgs_cons (pg_name (i := 7) sc_beneath.nd rfl (Or.inl rfl)) pgs_nil))))
    (pss_one (ps_if (pt_cmpR op_eq (pv 5) (pe_ix ix_tup (pv 3) pe_int (fun _ _ => rfl)) (nomark _))
    (pss_one (ps_expr (pe_bm PySem.F.plainAttrs_list PySem.F.slot_list_extend PySem.F.type_list_extend mt_extend (pv 4) (pa_cons (pe_fc F_children (hr.mono (by decide)) pass0 (pa_cons (pv 0) (pa_cons (pv 1) (pa_cons (pv 6) (pa_cons (pe_ix ix_tup (pv 3) pe_int (fun _ _ => rfl)) (pa_cons (pe_ix ix_tup (pv 3) pe_int (fun _ _ => rfl)) pa_nil)))))) pa_nil))))
    pss_nil)))
    (pss_one (ps_ret (pv 4))))), ?_⟩
    have hfew := ok.few
    refine ⟨nil_line, fun fo hfo => ?_⟩
    have e1 : Ex H (upd H fo (.lst [])) := Ex.new hfo
    refine ⟨_, rfl, rl, rfl, ⟨_, SqL.of (e1 _ _ hrl)⟩, for_list (K := K) (a := rl) (xs := rvs) (fun k σ H' => ∃ (ws : List Node) (v5 v6 v7 : Option V), σ = [some e, some sg, some (.ref rl), some (.ref wa), some (.ref fo), v5, v6, v7] ∧ Ex H H' ∧ MList WorkV H' fo ws ∧
      (∀ m, m ∈ ws ↔ ∃ r ∈ rules.take k, r.1.lhs = n.1 ∧ KidR x (Vaglrc.spansOf g x) r.1.rhs n.2.1 n.2.2 m) ∧ ws.length ≤ k * 5000)
      ⟨[], none, none, none, rfl, e1, MList.new hfo, fun m => by simp, by simp⟩ (fun k σ H' _ ⟨_, _, _, _, _, e2, _⟩ => SqL.of (e2 _ _ hrl)) ?_ ?_⟩
    · rintro k v σ H2 hk ⟨ws, v5, v6, v7, rfl, e2, hM, hW, hWl⟩
      obtain ⟨r, hr, ra, sv, rfl, hra, hsv⟩ := Paired.at' hrp hk
      have hrm := List.mem_of_getElem? hr
      have hkl := (List.getElem?_eq_some_iff.mp hr).1
      have htk : rules.take (k + 1) = rules.take k ++ [r] := by rw [List.take_succ, hr]; rfl
      refine ⟨ra, _, rfl, SqT.of (e2 _ _ hra), rfl, _, _, rfl, _, _, rfl, _, _, rfl, rfl, ?_⟩
      refine ⟨_, rfl, _, rfl, wa, _, _, _, rfl, rfl, SqT.of (e2 _ _ hwa), atI_nat (j := 0) rfl, rfl, _, rfl, ?_⟩
      rw [vN_eq]
      by_cases hc : r.1.lhs = n.1
      · rw [decide_eq_true hc]
        refine iteT ?_
        obtain ⟨vs, hv, hp⟩ := hM
        refine ⟨_, rfl, .inl ⟨rfl, _, SqL.of hv⟩, _, rfl, _, rfl, _, rfl, _, rfl, wa, _, _, _, rfl, rfl, SqT.of (e2 _ _ hwa), atI_nat (j := 1) rfl, _, rfl, wa, _, _, _, rfl, rfl, SqT.of (e2 _ _ hwa), atI_nat (j := 2) rfl,
          e, sg, sv, g, x, r.1.rhs, n.2.1, n.2.2, rfl, hT.mono e2, hsv.mono e2, ok.symIn hrm, hn2, ok.short r hrm, ?_⟩
        rintro H3 p ws2 e3 hp0 ⟨p', zs, hpe, hzs, hzp⟩ hW2 hWl2
        cases hpe
        have hl1 := Paired.len hp
        have hl2 := Paired.len hzp
        refine ⟨fo, p, vs, zs, rfl, rfl, e3 _ _ hv, hzs, small (by omega), ?_⟩
        refine ⟨ws ++ ws2, _, _, _, rfl, (e2.tr e3).mut hfo, ⟨vs ++ zs, upd_same, ?_⟩, fun m => ?_, ?_⟩
        · rw [del_upd_eq]
          exact Paired.app (Paired.mono2 hp fun v m q => WorkV.mono (del_mono e3) q) (Paired.mono2 hzp fun v m q => WorkV.del q (e3 _ _ hv))
        · rw [List.mem_append, hW, hW2, htk]
          constructor
          · rintro (⟨r', h1, h2⟩ | h)
            · exact ⟨r', List.mem_append_left _ h1, h2⟩
            · exact ⟨r, List.mem_append_right _ (List.mem_singleton.mpr rfl), hc, h⟩
          · rintro ⟨r', h1, h2⟩
            rcases List.mem_append.mp h1 with h1 | h1
            · exact .inl ⟨r', h1, h2⟩
            · rw [List.mem_singleton] at h1
              subst h1
              exact .inr h2.2
        · rw [List.length_append, Nat.add_mul]; omega
      · rw [decide_eq_false hc]
        refine iteF ?_
        refine ⟨ws, _, _, _, rfl, e2, hM, fun m => ?_, by rw [Nat.add_mul]; omega⟩
        rw [hW, htk]
        constructor
        · rintro ⟨r', h1, h2⟩
          exact ⟨r', List.mem_append_left _ h1, h2⟩
        · rintro ⟨r', h1, h2⟩
          rcases List.mem_append.mp h1 with h1 | h1
          · exact ⟨r', h1, h2⟩
          · rw [List.mem_singleton] at h1
            subst h1
            exact absurd h2.1 hc
    · rintro σ H2 ⟨ws, v5, v6, v7, rfl, e2, hM, hW, hWl⟩
      rw [Paired.len hrp, List.take_length] at hW
      rw [Paired.len hrp] at hWl
      exact ⟨_, rfl, ret H2 fo ws e2 hfo (MList.toV (P := WorkV) (fun _ _ _ _ => WorkV.mono) hM) (fun m => (hW m).trans (kid_of ok).symm) (by omega)⟩
end
end TW
set_option Elab.async false
set_option linter.all false
set_option maxRecDepth 100000
set_option maxHeartbeats 4000000
namespace TW
open PySem PySem.Spec PyProof.Rows L2
open Vaglrc (Sym Rule Grammar Node)
open TR (symF PathF tbl Up WfG comeTo Path Kid Same Star)
theorem huOf {A : Around} {k : Nat} (hr : Room k A) : A.units + 1 < cLine := by have := hr.un; omega
/-! ### the heap without some places -/
def dels (H : Hp) (ps : List Addr) : Hp := fun b => if b ∈ ps then none else H b
theorem dels_ne {H : Hp} {ps : List Addr} {b : Addr} (h : b ∉ ps) : dels H ps b = H b := if_neg h
theorem dels_upd {H : Hp} {ps : List Addr} {p : Addr} {o : HO} (h : p ∈ ps) : dels (upd H p o) ps = dels H ps := by
  funext b
  unfold dels
  by_cases e : b ∈ ps
  · rw [if_pos e, if_pos e]
  · rw [if_neg e, if_neg e, upd_ne (by rintro rfl; exact e h)]
theorem dels_ex {H : Hp} {ps : List Addr} : Ex (dels H ps) H := fun b o e => by
  unfold dels at e
  split at e
  · cases e
  · exact e
theorem dels_mono {H H' : Hp} {ps : List Addr} (e : Ex H H') : Ex (dels H ps) (dels H' ps) := fun b o q => by
  unfold dels at q ⊢
  split at q
  · cases q
  · rename_i h; rw [if_neg h]; exact e b o q
theorem ex_dels {H0 H : Hp} {ps : List Addr} (e : Ex H0 H) (h : ∀ p ∈ ps, H0 p = none) : Ex H0 (dels H ps) := fun b o q => by
  rw [dels_ne fun hm => by rw [h b hm] at q; cases q]
  exact e b o q
/-- no tuple stands there -/
def Nt (H : Hp) (ps : List Addr) : Prop := ∀ p ∈ ps, ∃ o, H p = some o ∧ ∀ xs, o ≠ .tup xs
theorem WorkV.dels {H : Hp} {v : V} {m : Node} {ps : List Addr} (h : WorkV H v m) (n : Nt H ps) : WorkV (dels H ps) v m := by
  obtain ⟨a, rfl, h⟩ := h
  refine ⟨a, rfl, ?_⟩
  rw [dels_ne fun hm => by
    obtain ⟨o, h1, h2⟩ := n a hm
    rw [h] at h1; cases h1
    exact h2 _ rfl]
  exact h
theorem fresh_not {H : Hp} {ps : List Addr} {b : Addr} (n : Nt H ps) (h : H b = none) : b ∉ ps := fun hm => by
  obtain ⟨o, h1, _⟩ := n b hm
  rw [h] at h1; cases h1
/-! ### pieces of work as keys -/
def keyN (n : Node) : List Key := [.inl n.1, .inl n.2.1, .inl n.2.2]
theorem keyN_inj {m n : Node} (h : keyN m = keyN n) : m = n := by
  obtain ⟨a, b, c⟩ := m
  obtain ⟨d, e, f⟩ := n
  unfold keyN at h
  simp only [List.cons.injEq, Sum.inl.injEq] at h
  obtain ⟨h1, h2, h3, _⟩ := h
  have := Int.ofNat_inj.mp h1
  have := Int.ofNat_inj.mp h2
  have := Int.ofNat_inj.mp h3
  simp_all
theorem WorkV.key {H : Hp} {v : V} {m : Node} (h : WorkV H v m) : ∃ a, v = .ref a ∧ H a = some (.tup ((keyN m).map kV)) := h
def knownD (l : List Node) : List (List Key × V) := l.map fun n => (keyN n, .bl true)
theorem knownD_val {l : List Node} {m : Node} : valV (knownD l) (keyN m) = if m ∈ l then some (.bl true) else none := by
  induction l with
  | nil => rfl
  | cons n l ih =>
    show valV ((keyN n, .bl true) :: knownD l) (keyN m) = _
    by_cases e : n = m
    · subst e
      rw [valV_pos rfl, if_pos List.mem_cons_self]
    · rw [valV_neg (fun q => e (keyN_inj q)), ih]
      have : (m ∈ n :: l) = (m ∈ l) := by
        rw [List.mem_cons]
        exact propext ⟨fun h => h.resolve_left fun q => e q.symm, .inr⟩
      simp only [this]
theorem nodup_le {α : Type} [DecidableEq α] : ∀ {l U : List α}, l.Nodup → (∀ a ∈ l, a ∈ U) → l.length ≤ U.length
  | [], _, _, _ => Nat.zero_le _
  | a :: l, U, h, s => by
    have h' := List.nodup_cons.mp h
    have ih := nodup_le (l := l) (U := U.erase a) h'.2 fun b hb => (List.mem_erase_of_ne (by rintro rfl; exact h'.1 hb)).mpr (s b (List.mem_cons_of_mem _ hb))
    rw [List.length_erase_of_mem (s a List.mem_cons_self)] at ih
    have := List.length_pos_of_mem (s a List.mem_cons_self)
    rw [List.length_cons]; omega
/-- a dict: for each piece of work some others -/
def SameV (H : Hp) (kvs : List (List Key × V)) (keys : List Node) (same : Node → List Node) : Prop := Paired (fun kv n => kv.1 = keyN n ∧ ListV WorkV H kv.2 (same n)) kvs keys
theorem SameV.mono {H H' : Hp} {kvs : List (List Key × V)} {keys : List Node} {same : Node → List Node} (e : Ex H H') (h : SameV H kvs keys same) : SameV H' kvs keys same :=
  Paired.mono2 h fun kv n ⟨a, b⟩ => ⟨a, ListV.mono (P := WorkV) (fun _ _ _ _ => WorkV.mono) e b⟩
theorem SameV.val {H : Hp} {keys : List Node} {same : Node → List Node} {kvs : List (List Key × V)} (h : SameV H kvs keys same) {m : Node} : (m ∈ keys → ∃ v, valV kvs (keyN m) = some v ∧ ListV WorkV H v (same m)) ∧ (m ∉ keys → valV kvs (keyN m) = none) := by
  unfold SameV at h
  induction h with
  | nil => exact ⟨fun h => by simp at h, fun _ => rfl⟩
  | @cons kv n kvs keys r _ ih =>
    by_cases e : n = m
    · subst e
      refine ⟨fun _ => ⟨kv.2, valV_pos r.1, r.2⟩, fun h => absurd List.mem_cons_self h⟩
    · have hv : valV (kv :: kvs) (keyN m) = valV kvs (keyN m) := valV_neg fun q => e (keyN_inj (r.1.symm.trans q))
      refine ⟨fun h => ?_, fun h => ?_⟩
      · rw [hv]
        exact ih.1 ((List.mem_cons.mp h).resolve_left fun q => e q.symm)
      · rw [hv]
        exact ih.2 fun q => h (List.mem_cons_of_mem _ q)
theorem shape2 {a b : Nat} : SeqAt.shaped (.tuple [.int (a : Int), .int (b : Int)]) = true := rfl
theorem eqv2 {a b c d : Nat} : PyData.eqv (.tuple [.int (a : Int), .int (b : Int)]) (.tuple [.int (c : Int), .int (d : Int)]) = decide ((a, b) = (c, d)) := by
  show (((a : Int) == (c : Int)) && ((((b : Int) == (d : Int)) && true))) = _
  rw [Bool.and_true]
  by_cases h1 : a = c
  · by_cases h2 : b = d
    · subst h1 h2; simp
    · have : ¬ ((b : Int) = (d : Int)) := by omega
      simp [h1, h2, this]
  · have : ¬ ((a : Int) = (c : Int)) := by omega
    simp [h1, this]
section
variable {P : Program} {w : World} {K : PySem.W.Frag} {mg : Str → Option Value} {base : Heap}
def sp_reached : Sp := fun vs H Q _ => ∃ (e sg rw : V) (g : Grammar) (x : List Nat) (rules : List (Rule × Int)) (a : Nat), vs = [e, sg, rw, vN a] ∧ TabV H e sg g x ∧ RulesV H rw rules ∧ RulesOk g rules ∧ x.length ∈ Vaglrc.ends (Vaglrc.spansOf g x) a 0 ∧
  ∀ H' p kvs keys same, Ex H H' → H' p = some (.dT kvs) → SameV H' kvs keys same → keys.Nodup → (∀ n, n ∈ keys ↔ Star (Kid g x (Vaglrc.spansOf g x)) (a, 0, x.length) n) → (∀ n ∈ keys, ∀ m, m ∈ same n ↔ Same g x (Vaglrc.spansOf g x) n m) → (∀ n ∈ keys, (same n).length ≤ 500000) → Q (.ref p) H'
/-- the state of the walk: known pieces, the waiting ones, those done -/
structure ReachI (g : Grammar) (x : List Nat) (whole : Node) (kn wt dn : List Node) : Prop where
  kd : kn.Nodup
  wd : wt.Nodup
  dd : dn.Nodup
  mem : ∀ n, n ∈ kn ↔ n ∈ dn ∨ n ∈ wt
  apart : ∀ n ∈ dn, n ∉ wt
  star : ∀ n ∈ kn, Star (Kid g x (Vaglrc.spansOf g x)) whole n
  clos : ∀ n ∈ dn, ∀ m, Kid g x (Vaglrc.spansOf g x) n m → m ∈ kn
  root : whole ∈ kn
theorem ReachI.le {g : Grammar} {x : List Nat} {whole : Node} {kn wt dn : List Node} (h : ReachI g x whole kn wt dn) (hw : whole ∈ Vaglrc.nodesOf (Vaglrc.spansOf g x)) : kn.length ≤ g.nons * (x.length + 1) * (x.length + 1) := by
  rw [← TR.length_univ]
  refine nodup_le h.kd fun n hn => ?_
  have := TR.star_node TR.spans_good hw (h.star n hn)
  have l := TR.spans_good.lim ((TR.mem_nodesOf TR.spans_good).mp this)
  obtain ⟨a, i, j⟩ := n
  exact TR.mem_univ.mpr ⟨l.1, l.2.1, l.2.2.2⟩
abbrev s_reached : Stmt := topS 26
/-- 0 ends, 1 signs, 2 rules, 3 nonterminal, 4 whole, 5 known, 6 waiting, 7 found, 8 work, 9 below, 10 one -/
theorem sc_reached : FnScope ["ends", "signs", "rules", "nonterminal", "whole", "known", "waiting", "found", "work", "below", "one"] ["ends", "signs", "rules", "nonterminal"] (defScope s_reached) := ⟨rfl, rfl, rfl, by decide +kernel, rfl, by decide +kernel, by decide +kernel⟩
theorem ok_reached {f : Addr} {fd : FuncData} (F : Fun K "reached" "reached" s_reached f fd) (T : Glob mg) (F_beneath : FnC P w K mg base CX0 4 "beneath" ["ends", "signs", "rules", "work"] sp_beneath) :
    FnOk P w K mg base CX0 5 f fd ["ends", "signs", "rules", "nonterminal"] sp_reached := by
  refine F.ok sc_reached (fun vs H Q E h => ?_) (fun cdv A outer s H vs Q E hr h => ?_)
  · obtain ⟨_, _, _, _, _, _, _, rfl, _⟩ := h
    rfl
  · obtain ⟨e, sg, rw, g, x, rules, a, rfl, hT, hR, ok, hcov, ret⟩ := h
    have hu := huOf hr
    refine ⟨_, (pss_cons (ps_set (i := 4) sc_reached.nd rfl (Or.inl rfl) (pe_tup (pa_cons (pv 3) (pa_cons pe_int (pa_cons (pe_callB call_len_seq (by rfl) T.len (by decide +kernel) (pa_cons (pv 1) pa_nil)) pa_nil)))))
    (pss_cons (ps_set (i := 5) sc_reached.nd rfl (Or.inl rfl) (pe_dispT hu (pv 4) pe_bl))
    (pss_cons (ps_set (i := 6) sc_reached.nd rfl (Or.inl rfl) (pe_lst (pa_cons (pv 4) pa_nil)))
    (pss_cons (ps_set (i := 7) sc_reached.nd rfl (Or.inl rfl) pe_dnewT)
    (pss_cons (ps_while PassesOwn.never (pt_cmpR (op_neNil (Nat.lt_of_succ_lt hu)) (pv 6) (pe_lst pa_nil) (nomark _))
    (pss_cons (ps_set (i := 8) sc_reached.nd rfl (Or.inr rfl) (pe_bm0 PySem.F.plainAttrs_list PySem.F.slot_list_pop PySem.F.type_list_pop mt_pop (pv 6)))
    (pss_cons (ps_set (i := 9) sc_reached.nd rfl (Or.inl rfl) (pe_fc F_beneath (hr.mono (by decide)) pass0 (pa_cons (pv 0) (pa_cons (pv 1) (pa_cons (pv 2) (pa_cons (pv 8) pa_nil))))))
    (pss_cons (ps_dput hu (pv 7) (pv 8) (pe_lc (own := [("one", 10)]) (g := (gName 10)) (tt := (tTest (tOp (rEqD K) (tSl (rSlT K) (tVar 10) (tPart (tC (.int 1))) tNoPart) (tSl (rSlT K) (tVar 8) (tPart (tC (.int 1))) tNoPart)))) (te := (tVar 10)) rfl sc_reached.nd (pi_list (pv 9)) (blkOk_by (own := [("one", 10)]) (N := ["ends", "signs", "rules", "nonterminal", "whole", "known", "waiting", "found", "work", "below", "one"]) (sc := defScope s_reached) (by decide +kernel)) (fun _ _ _ _ _ => by exact (pg_name (i := 10) sc_reached.nd rfl (Or.inl rfl))) (fun _ _ _ _ _ => by exact (pts_one (pt_cmpR (op_eqD hr.units) (pe_slice sl_tup (pv 10) (po_some pe_int) po_none) (pe_slice sl_tup (pv 8) (po_some pe_int) po_none) (nomark _)))) (fun _ _ _ _ _ => by exact (pv 10))) rfl)
    (pss_one (ps_for PassesOwn.never rfl (pi_list (pv 9)) (pg_name (i := 10) sc_reached.nd rfl (Or.inl rfl))
    (pss_one (ps_if (pt_cmp (pc_dnotin hu (pv 10) (pv 5)) rfl)
    (pss_cons (ps_dput hu (pv 5) (pv 10) pe_bl rfl)
    (pss_one (ps_expr (pe_bm PySem.F.plainAttrs_list PySem.F.slot_list_append PySem.F.type_list_append mt_append (pv 6) (pa_cons (pv 10) pa_nil)))))
    pss_nil))))))))
    (pss_one (ps_ret (pv 7)))))))), ?_⟩
    have hn24 := hT.n
    have hm20 := hT.m
    have gd : TR.Good g x (Vaglrc.spansOf g x) := TR.spans_good
    have hwh : ((a, 0, x.length) : Node) ∈ Vaglrc.nodesOf (Vaglrc.spansOf g x) := (TR.mem_nodesOf gd).mpr hcov
    have hU : g.nons * (x.length + 1) * (x.length + 1) ≤ 12500 := by
      have h1 : g.nons * (x.length + 1) ≤ 20 * 25 := Nat.mul_le_mul hm20 (by omega)
      exact Nat.mul_le_mul h1 (by omega : x.length + 1 ≤ 25)
    obtain ⟨xl, rfl, hxl⟩ := id hT.s
    -- whole, known, waiting, found
    refine ⟨_, rfl, _, rfl, xl, _, rfl, .inl (SqL.of hxl), ⟨three_line, fun wa hwa => ?_⟩⟩
    rw [List.length_map]
    refine fun kp hkp => ⟨_, rfl, keyN (a, 0, x.length), wa, upd_same, rfl, ?_, ?_⟩
    · rw [upd_ne (fun q => by rw [q, upd_same] at hkp; cases hkp)]; exact upd_same
    have ek : upd (upd (upd H wa (.tup [vN a, .int 0, .int (x.length : Nat)])) kp (.dT [])) kp (.dT [(keyN (a, 0, x.length), .bl true)]) = upd (upd H wa (.tup [vN a, .int 0, .int (x.length : Nat)])) kp (.dT (knownD [(a, 0, x.length)])) := by
      funext b
      unfold upd
      split <;> rfl
    rw [ek]
    refine ⟨_, rfl, one_line, fun wl hwl => fun fp hfp => ?_⟩
    have hkpH : H kp = none := (Ex.new hwa).back hkp
    have e1 : Ex H (upd (upd H wa (.tup [vN a, .int 0, .int (x.length : Nat)])) kp (.dT (knownD [(a, 0, x.length)]))) := (Ex.new hwa).mut hkpH
    have hwlH : H wl = none := e1.back hwl
    have e2 := e1.mut (o := .lst [.ref wa]) hwlH
    have hfpH : H fp = none := e2.back hfp
    have e3 := e2.mut (o := .dT []) hfpH
    have hkw : wl ≠ kp := fun q => by rw [q, upd_same] at hwl; cases hwl
    have hfw : fp ≠ wl := fun q => by rw [q, upd_same] at hfp; cases hfp
    have hfk : fp ≠ kp := fun q => by rw [q, upd_ne (Ne.symm hkw), upd_same] at hfp; cases hfp
    have hps : ∀ p ∈ [kp, wl, fp], H p = none := fun p hp => by
      rcases List.mem_cons.mp hp with rfl | hp
      · exact hkpH
      · rcases List.mem_cons.mp hp with rfl | hp
        · exact hwlH
        · rw [List.mem_singleton.mp hp]; exact hfpH
    have mk : kp ∈ [kp, wl, fp] := by simp
    have mw : wl ∈ [kp, wl, fp] := by simp
    have mf : fp ∈ [kp, wl, fp] := by simp
    have ntOf : ∀ {H' : Hp} {k1 k2 : List (List Key × V)} {l : List V}, H' kp = some (.dT k1) → H' wl = some (.lst l) → H' fp = some (.dT k2) → Nt H' [kp, wl, fp] := fun h1 h2 h3 p hp => by
      rcases List.mem_cons.mp hp with rfl | hp
      · exact ⟨_, h1, fun _ q => by cases q⟩
      · rcases List.mem_cons.mp hp with rfl | hp
        · exact ⟨_, h2, fun _ q => by cases q⟩
        · rw [List.mem_singleton.mp hp]; exact ⟨_, h3, fun _ q => by cases q⟩
    have hwa3 : dels (upd (upd (upd (upd H wa (.tup [vN a, .int 0, .int (x.length : Nat)])) kp (.dT (knownD [(a, 0, x.length)]))) wl (.lst [.ref wa])) fp (.dT [])) [kp, wl, fp] wa = some (.tup [vN a, .int 0, .int (x.length : Nat)]) := by
      rw [dels_upd mf, dels_upd mw, dels_upd mk, dels_ne]
      · exact upd_same
      · intro hm
        have := hps wa hm
        rcases List.mem_cons.mp hm with q | hm
        · rw [← q, upd_same] at hkp; cases hkp
        · rcases List.mem_cons.mp hm with q | hm
          · rw [← q, upd_ne (fun q2 => hkw (q.symm.trans q2)), upd_same] at hwl; cases hwl
          · have q := List.mem_singleton.mp hm
            rw [← q, upd_ne (fun q2 => hfw (q.symm.trans q2)), upd_ne (fun q2 => hfk (q.symm.trans q2)), upd_same] at hfp; cases hfp
    have k3 : upd (upd (upd (upd H wa (.tup [vN a, .int 0, .int (x.length : Nat)])) kp (.dT (knownD [(a, 0, x.length)]))) wl (.lst [.ref wa])) fp (.dT []) kp = some (.dT (knownD [(a, 0, x.length)])) := by rw [upd_ne (Ne.symm hfk), upd_ne (Ne.symm hkw)]; exact upd_same
    have w3 : upd (upd (upd (upd H wa (.tup [vN a, .int 0, .int (x.length : Nat)])) kp (.dT (knownD [(a, 0, x.length)]))) wl (.lst [.ref wa])) fp (.dT []) wl = some (.lst [.ref wa]) := by rw [upd_ne (Ne.symm hfw)]; exact upd_same
    generalize hH3 : upd (upd (upd (upd H wa (.tup [vN a, .int 0, .int (x.length : Nat)])) kp (.dT (knownD [(a, 0, x.length)]))) wl (.lst [.ref wa])) fp (.dT []) = H3 at e3 hwa3 k3 w3
    have f3 : H3 fp = some (.dT []) := by rw [← hH3]; exact upd_same
    refine ⟨fun μ σ H' => ∃ (kn wt dn : List Node) (wvs : List V) (kvs : List (List Key × V)) (sm : Node → List Node) (v8 v9 v10 : Option V), σ = [some e, some (.ref xl), some rw, some (vN a), some (.ref wa), some (.ref kp), some (.ref wl), some (.ref fp), v8, v9, v10] ∧ Ex H (dels H' [kp, wl, fp]) ∧
      H' kp = some (.dT (knownD kn)) ∧ H' wl = some (.lst wvs) ∧ Paired (WorkV (dels H' [kp, wl, fp])) wvs wt ∧ H' fp = some (.dT kvs) ∧ SameV (dels H' [kp, wl, fp]) kvs dn sm ∧ ReachI g x (a, 0, x.length) kn wt dn ∧
      (∀ n ∈ dn, (∀ m, m ∈ sm n ↔ Same g x (Vaglrc.spansOf g x) n m) ∧ (sm n).length ≤ 500000) ∧ μ = 2 * (12500 - kn.length) + wt.length, ⟨_, [(a, 0, x.length)], [(a, 0, x.length)], [], [.ref wa], [], fun _ => [], none, none, none, rfl, ex_dels e3 hps, k3, w3, .cons ⟨wa, rfl, hwa3⟩ .nil, f3, .nil, ?_, by simp, rfl⟩, ?_⟩
    · refine ⟨by simp, by simp, by simp, fun n => by simp, by simp, fun n hn => ?_, by simp, by simp⟩
      rw [List.mem_singleton.mp hn]; exact .refl
    rintro μ σ H1 ⟨kn, wt, dn, wvs, kvs, sm, v8, v9, v10, rfl, e4, hk4, hw4, hwp, hf4, hsv, hI, hsm, rfl⟩
    refine ⟨_, rfl, nil_line, fun z hz => ⟨wl, z, wvs, rfl, rfl, Ex.new hz _ _ hw4, upd_same, _, rfl, ?_⟩⟩
    have e5 : Ex H1 (upd H1 z (.lst [])) := Ex.new hz
    rcases List.eq_nil_or_concat wt with rfl | ⟨W0, n, hwt⟩
    · cases hwp
      refine iteF ?_
      refine ⟨_, rfl, ret _ fp kvs dn sm ((e4.tr dels_ex).tr e5) (e5 _ _ hf4) (hsv.mono (dels_ex.tr e5)) hI.dd (fun n => ⟨fun hn => hI.star n ((hI.mem n).mpr (.inl hn)), fun hs => ?_⟩) (fun n hn => (hsm n hn).1) fun n hn => (hsm n hn).2⟩
      have hdn : ∀ n, n ∈ kn ↔ n ∈ dn := fun n => by rw [hI.mem]; simp
      have go : ∀ b c, Star (Kid g x (Vaglrc.spansOf g x)) b c → b ∈ kn → c ∈ kn := fun b c hs => by
        induction hs with
        | refl => exact fun h => h
        | head r _ ih => exact fun h => ih (hI.clos _ ((hdn _).mp h) _ r)
      exact (hdn n).mp (go _ _ hs hI.root)
    · rw [List.concat_eq_append] at hwt
      subst hwt
      obtain ⟨vs0, y, rfl, hp0, hyw⟩ := Paired.last hwp
      have hne : (!(vs0 ++ [y]).isEmpty) = true := by
        cases vs0 <;> rfl
      rw [hne]
      refine iteT ?_
      have hwz : wl ≠ z := fun q => by rw [← q, hw4] at hz; cases hz
      have hkz : kp ≠ z := fun q => by rw [← q, hk4] at hz; cases hz
      have hfz : fp ≠ z := fun q => by rw [← q, hf4] at hz; cases hz
      refine ⟨fun σ' H' => ∃ (kn' wt' dn' : List Node) (wvs : List V) (kvs : List (List Key × V)) (sm : Node → List Node) (v8 v9 v10 : Option V), σ' = [some e, some (.ref xl), some rw, some (vN a), some (.ref wa), some (.ref kp), some (.ref wl), some (.ref fp), v8, v9, v10] ∧ Ex H (dels H' [kp, wl, fp]) ∧
        H' kp = some (.dT (knownD kn')) ∧ H' wl = some (.lst wvs) ∧ Paired (WorkV (dels H' [kp, wl, fp])) wvs wt' ∧ H' fp = some (.dT kvs) ∧ SameV (dels H' [kp, wl, fp]) kvs dn' sm ∧ ReachI g x (a, 0, x.length) kn' wt' dn' ∧
        (∀ n ∈ dn', (∀ m, m ∈ sm n ↔ Same g x (Vaglrc.spansOf g x) n m) ∧ (sm n).length ≤ 500000) ∧ 2 * (12500 - kn'.length) + wt'.length < 2 * (12500 - kn.length) + (W0 ++ [n]).length, ?_, ?_⟩
      · rintro σ' H' ⟨kn', wt', dn', wvs', kvs', sm', v8', v9', v10', q1, q2, q3, q4, q5, q6, q7, q8, q9, q10⟩
        exact ⟨_, q10, kn', wt', dn', wvs', kvs', sm', v8', v9', v10', q1, q2, q3, q4, q5, q6, q7, q8, q9, rfl⟩
      -- work = waiting.pop()
      refine ⟨_, rfl, .inl ⟨rfl, _, SqL.of (e5 _ _ hw4)⟩, wl, vs0 ++ [y], y, rfl, rfl, e5 _ _ hw4, by simp, ?_⟩
      rw [List.dropLast_concat]
      have hyw0 := hyw
      obtain ⟨ya, rfl, hya⟩ := hyw
      have d6 : dels (upd (upd H1 z (.lst [])) wl (.lst vs0)) [kp, wl, fp] = dels (upd H1 z (.lst [])) [kp, wl, fp] := dels_upd mw
      have e15 : Ex (dels H1 [kp, wl, fp]) (dels (upd (upd H1 z (.lst [])) wl (.lst vs0)) [kp, wl, fp]) := by rw [d6]; exact dels_mono e5
      have e06 : Ex H (upd (upd H1 z (.lst [])) wl (.lst vs0)) := (e4.tr e15).tr dels_ex
      have hk6 : (upd (upd H1 z (.lst [])) wl (.lst vs0)) kp = some (.dT (knownD kn)) := by rw [upd_ne (Ne.symm hkw)]; exact e5 _ _ hk4
      have hf6 : (upd (upd H1 z (.lst [])) wl (.lst vs0)) fp = some (.dT kvs) := by rw [upd_ne hfw]; exact e5 _ _ hf4
      have hw6 : (upd (upd H1 z (.lst [])) wl (.lst vs0)) wl = some (.lst vs0) := upd_same
      have hp6 := Paired.mono2 hp0 fun v m q => WorkV.mono e15 q
      have hy6 := hyw0.mono e15
      have hsv6 := hsv.mono e15
      have e46 := e4.tr e15
      generalize upd (upd H1 z (.lst [])) wl (.lst vs0) = H6 at hk6 hf6 hw6 hp6 hy6 hsv6 e46 e06
      clear d6 e15
      have hy6' : H6 ya = some (.tup [vN n.1, vN n.2.1, vN n.2.2]) := by
        obtain ⟨_, q, p⟩ := hy6
        cases q
        exact dels_ex _ _ p
      have hnk : n ∈ kn := (hI.mem n).mpr (.inr (by simp))
      have hns := hI.star n hnk
      have hnd : n ∉ dn := fun q => hI.apart n q (by simp)
      have hnl := TR.spans_good.lim ((TR.mem_nodesOf gd).mp (TR.star_node gd hwh hns))
      -- below = beneath(..)
      refine ⟨_, rfl, _, rfl, _, rfl, _, rfl, e, .ref xl, rw, .ref ya, g, x, rules, n, rfl, hT.mono e06, hR.mono e06, ok, ⟨ya, rfl, hy6'⟩, hnl.2.2.2, ?_⟩
      rintro H7 pb ws e7 hpb ⟨pb', bvs, hpe, hbv, hbp⟩ hws hwsl
      cases hpe
      have nt6 := ntOf hk6 hw6 hf6
      have hk7 := e7 _ _ hk6
      have hw7 := e7 _ _ hw6
      have hf7 := e7 _ _ hf6
      have nt7 := ntOf hk7 hw7 hf7
      have hpbn := fresh_not nt6 hpb
      obtain ⟨zs, hz1, hz2, hz3⟩ := Paired.pairs hbp
      have hzl : zs.length = ws.length := by rw [hz2, List.length_map]
      -- found[work] = [one for one in below if one[1:] == work[1:]]
      refine ⟨_, rfl, pb, rfl, ⟨_, SqL.of hbv⟩, fun D hD => ?_⟩
      have hDn := fresh_not nt7 hD
      have hyK : H7 ya = some (.tup [vN n.1, vN n.2.1, vN n.2.2]) := e7 _ _ hy6'
      refine lcA (K := K) (ys := zs) (g := Prod.fst) (b := fun z => decide (z.2.2 = n.2)) (c := Prod.fst) hD (by rw [hbv, hz1]) ?_ (fun _ => rfl) (fun z hz H' e' R hR => ?_) (fun z hz H' e' _ R hR => ⟨_, rfl, hR _ (Ex.refl _)⟩) fun H8 e8 hDv => ?_
      · omega
      · obtain ⟨za, hza1, hza2⟩ := hz3 z hz
        refine ⟨_, rfl, 1, rfl, za, _, hza1, SqT.of (e' _ _ hza2), fun h => absurd h.1 (show ¬ HT.sIx 3 0 (some 1) = 0 by decide), fun p hp => ?_⟩
        have ep : Ex H' (upd H' p (.tup (cutV [vN z.2.1, vN z.2.2.1, vN z.2.2.2] (some 1) none))) := Ex.new hp
        refine ⟨_, rfl, 1, rfl, ya, _, rfl, SqT.of ((e'.tr ep) _ _ hyK), fun h => absurd h.1 (show ¬ HT.sIx 3 0 (some 1) = 0 by decide), fun q hq => ?_⟩
        have eq1 : cutV [vN z.2.1, vN z.2.2.1, vN z.2.2.2] (some 1) none = [vN z.2.2.1, vN z.2.2.2] := cutV_from (a := 1)
        have eq2 : cutV [vN n.1, vN n.2.1, vN n.2.2] (some 1) none = [vN n.2.1, vN n.2.2] := cutV_from (a := 1)
        have hpq : p ≠ q := fun q2 => by rw [← q2, upd_same] at hq; cases hq
        refine ⟨.tuple [.int (z.2.2.1 : Int), .int (z.2.2.2 : Int)], .tuple [.int (n.2.1 : Int), .int (n.2.2 : Int)], .tup (SqT.of ?_) (.cons (.int _) (.cons (.int _) .nil)), .tup (SqT.of ?_) (.cons (.int _) (.cons (.int _) .nil)), shape2, shape2, _, rfl, ?_⟩
        · rw [upd_ne hpq, upd_same, eq1]; rfl
        · rw [upd_same, eq2]; rfl
        · rw [eqv2]
          exact hR _ (ep.tr (Ex.new hq))
      have hfl := List.length_filter_le (fun z : V × Node => decide (z.2.2 = n.2)) zs
      have nt8 := ntOf (e8 _ _ hk7) (e8 _ _ hw7) (e8 _ _ hf7)
      have hval := hsv6.val (m := n)
      have hput : putK kvs (keyN n) (.ref D) = kvs ++ [(keyN n, .ref D)] := putK_new _ (hval.2 hnd)
      have hkvl : kvs.length = dn.length := Paired.len hsv6
      have hdl : dn.length ≤ 12500 := by
        have := nodup_le (l := dn) (U := kn) hI.dd fun m hm => (hI.mem m).mpr (.inl hm)
        have := hI.le hwh
        omega
      refine ⟨_, rfl, _, rfl, fp, _, rfl, DPut.t (k := keyN n) (e8 _ _ hf7) (e8 _ _ hyK) (small_lt (by omega)), ?_⟩
      rw [hput]
      have d9 : dels (upd H8 fp (.dT (kvs ++ [(keyN n, .ref D)]))) [kp, wl, fp] = dels H8 [kp, wl, fp] := dels_upd mf
      have e69 : Ex (dels H6 [kp, wl, fp]) (dels (upd H8 fp (.dT (kvs ++ [(keyN n, .ref D)]))) [kp, wl, fp]) := by rw [d9]; exact dels_mono (e7.tr e8)
      have hk9 : (upd H8 fp (.dT (kvs ++ [(keyN n, .ref D)]))) kp = some (.dT (knownD kn)) := by rw [upd_ne (Ne.symm hfk)]; exact e8 _ _ hk7
      have hw9 : (upd H8 fp (.dT (kvs ++ [(keyN n, .ref D)]))) wl = some (.lst vs0) := by rw [upd_ne (Ne.symm hfw)]; exact e8 _ _ hw7
      have hf9 : (upd H8 fp (.dT (kvs ++ [(keyN n, .ref D)]))) fp = some (.dT (kvs ++ [(keyN n, .ref D)])) := upd_same
      have hb9 : dels (upd H8 fp (.dT (kvs ++ [(keyN n, .ref D)]))) [kp, wl, fp] pb = some (.lst bvs) := by rw [d9, dels_ne hpbn]; exact e8 _ _ hbv
      have hbp9 : Paired (WorkV (dels (upd H8 fp (.dT (kvs ++ [(keyN n, .ref D)]))) [kp, wl, fp])) bvs ws := by
        rw [d9]
        exact Paired.mono2 hbp fun v m q => WorkV.mono (dels_mono e8) (WorkV.dels q nt7)
      have hD9 : ListV WorkV (dels (upd H8 fp (.dT (kvs ++ [(keyN n, .ref D)]))) [kp, wl, fp]) (.ref D) ((zs.filter fun z => decide (z.2.2 = n.2)).map Prod.snd) := by
        rw [d9]
        refine ⟨D, _, rfl, by rw [dels_ne hDn]; exact hDv, ?_⟩
        refine paired_of (by simp) fun i v m h1 h2 => ?_
        rw [List.getElem?_map] at h1 h2
        obtain ⟨z, hz, rfl⟩ := Option.map_eq_some_iff.mp h1
        rw [hz] at h2
        cases h2
        have hzm := (List.mem_filter.mp (List.mem_of_getElem? hz)).1
        exact WorkV.mono (dels_mono e8) (WorkV.dels (hz3 z hzm) nt7)
      have e49 := e46.tr e69
      have hsv9 := hsv6.mono e69
      have hp9 := Paired.mono2 hp6 fun v m q => WorkV.mono e69 q
      generalize upd H8 fp (.dT (kvs ++ [(keyN n, .ref D)])) = H9 at e69 hk9 hw9 hf9 hb9 hbp9 hD9 e49 hsv9 hp9
      clear d9 e69
      have hsame : ∀ m, m ∈ (zs.filter fun z => decide (z.2.2 = n.2)).map Prod.snd ↔ Same g x (Vaglrc.spansOf g x) n m := fun m => by
        rw [List.mem_map]
        constructor
        · rintro ⟨z, hz, rfl⟩
          obtain ⟨h1, h2⟩ := List.mem_filter.mp hz
          exact ⟨(hws _).mp (by rw [hz2]; exact List.mem_map_of_mem h1), of_decide_eq_true h2⟩
        · rintro ⟨h1, h2⟩
          have := (hws m).mpr h1
          rw [hz2] at this
          obtain ⟨z, hz, rfl⟩ := List.mem_map.mp this
          exact ⟨z, List.mem_filter.mpr ⟨hz, decide_eq_true h2⟩, rfl⟩
      have hslen : ((zs.filter fun z => decide (z.2.2 = n.2)).map Prod.snd).length ≤ 500000 := by rw [List.length_map]; omega
      generalize (zs.filter fun z => decide (z.2.2 = n.2)).map Prod.snd = sn at hD9 hsame hslen
      -- for one in below
      refine ⟨_, rfl, pb, rfl, ⟨_, SqL.of (dels_ex _ _ hb9)⟩, for_list (K := K) (a := pb) (xs := bvs) (fun j σ H' => ∃ (nw : List Node) (wvs' : List V) (v10 : Option V), σ = [some e, some (.ref xl), some rw, some (vN a), some (.ref wa), some (.ref kp), some (.ref wl), some (.ref fp), some (.ref ya), some (.ref pb), v10] ∧ Ex (dels H9 [kp, wl, fp]) (dels H' [kp, wl, fp]) ∧
        H' kp = some (.dT (knownD (kn ++ nw))) ∧ H' wl = some (.lst wvs') ∧ Paired (WorkV (dels H' [kp, wl, fp])) wvs' (W0 ++ nw) ∧ H' fp = some (.dT (kvs ++ [(keyN n, .ref D)])) ∧ (kn ++ nw).Nodup ∧ (∀ m ∈ nw, Kid g x (Vaglrc.spansOf g x) n m) ∧ ∀ m ∈ ws.take j, m ∈ kn ++ nw)
        ⟨[], vs0, v10, rfl, Ex.refl _, by rw [List.append_nil]; exact hk9, hw9, by rw [List.append_nil]; exact hp9, hf9, by rw [List.append_nil]; exact hI.kd, by simp, by simp⟩ (fun j σ H' _ ⟨_, _, _, _, q, _⟩ => SqL.of (dels_ex _ _ (q _ _ hb9))) ?_ ?_⟩
      · rintro j v σ H10 hj ⟨nw, wvs', v10', rfl, e10, hk10, hw10, hwp10, hf10, hnd10, hkid, hall⟩
        obtain ⟨m, hm, hmv⟩ := Paired.at' hbp9 hj
        have htk : ws.take (j + 1) = ws.take j ++ [m] := by rw [List.take_succ, hm]; rfl
        obtain ⟨ma, rfl, hma⟩ := hmv.mono e10
        have hma' := dels_ex _ _ hma
        refine ⟨_, rfl, _, rfl, kp, _, rfl, DGet.t (k := keyN m) hk10 hma', _, rfl, ?_⟩
        rw [knownD_val]
        by_cases hmk : m ∈ kn ++ nw
        · rw [if_pos hmk]
          refine iteF ?_
          refine ⟨nw, wvs', _, rfl, e10, hk10, hw10, hwp10, hf10, hnd10, hkid, fun m' hm' => ?_⟩
          rw [htk] at hm'
          rcases List.mem_append.mp hm' with h | h
          · exact hall m' h
          · rw [List.mem_singleton.mp h]; exact hmk
        · rw [if_neg hmk]
          refine iteT ?_
          have hkl : (kn ++ nw).length ≤ 12500 := by
            refine Nat.le_trans ?_ hU
            rw [← TR.length_univ]
            refine nodup_le hnd10 fun m' hm' => ?_
            have hst : Star (Kid g x (Vaglrc.spansOf g x)) (a, 0, x.length) m' := by
              rcases List.mem_append.mp hm' with h | h
              · exact hI.star m' h
              · exact hns.trans (.one (hkid m' h))
            have l := TR.spans_good.lim ((TR.mem_nodesOf TR.spans_good).mp (TR.star_node gd hwh hst))
            obtain ⟨q1, q2, q3⟩ := m'
            exact TR.mem_univ.mpr ⟨l.1, l.2.1, l.2.2.2⟩
          have hput2 : putK (knownD (kn ++ nw)) (keyN m) (.bl true) = knownD (kn ++ (nw ++ [m])) := by
            rw [putK_new _ (by rw [knownD_val, if_neg hmk]), ← List.append_assoc]
            show _ = List.map _ ((kn ++ nw) ++ [m])
            rw [List.map_append]; rfl
          have hwl10 : wvs'.length ≤ 12500 := by
            have h1 := Paired.len hwp10
            have h2 : (W0 ++ nw).length ≤ (kn ++ nw).length := by
              have : W0.length ≤ kn.length := nodup_le (List.nodup_append.mp hI.wd).1 fun q hq => (hI.mem q).mpr (.inr (List.mem_append_left _ hq))
              rw [List.length_append, List.length_append]; omega
            omega
          refine ⟨_, rfl, _, rfl, kp, _, rfl, DPut.t (k := keyN m) hk10 hma' (small_lt (by unfold knownD; rw [List.length_map]; omega)), ?_⟩
          rw [hput2]
          have hw11 : (upd H10 kp (.dT (knownD (kn ++ (nw ++ [m]))))) wl = some (.lst wvs') := by rw [upd_ne hkw]; exact hw10
          refine ⟨_, rfl, .inl ⟨rfl, _, SqL.of hw11⟩, _, rfl, wl, wvs', _, rfl, rfl, hw11, small_lt (by omega), ?_⟩
          have d12 : dels (upd (upd H10 kp (.dT (knownD (kn ++ (nw ++ [m]))))) wl (.lst (wvs' ++ [.ref ma]))) [kp, wl, fp] = dels H10 [kp, wl, fp] := by rw [dels_upd mw, dels_upd mk]
          refine ⟨nw ++ [m], wvs' ++ [.ref ma], _, rfl, by rw [d12]; exact e10, by rw [upd_ne (Ne.symm hkw)]; exact upd_same, upd_same, ?_, by rw [upd_ne hfw, upd_ne hfk]; exact hf10, ?_, fun m' hm' => ?_, fun m' hm' => ?_⟩
          · rw [d12, ← List.append_assoc]
            exact Paired.snoc hwp10 ⟨ma, rfl, hma⟩
          · rw [← List.append_assoc]
            refine List.nodup_append.mpr ⟨hnd10, by simp, fun q1 h1 q2 h2 e => ?_⟩
            rw [List.mem_singleton] at h2
            subst e
            exact hmk (h2 ▸ h1)
          · rcases List.mem_append.mp hm' with h | h
            · exact hkid m' h
            · rw [List.mem_singleton.mp h]
              exact (hws m).mp (List.mem_of_getElem? hm)
          · rw [← List.append_assoc]
            rw [htk] at hm'
            rcases List.mem_append.mp hm' with h | h
            · exact List.mem_append_left _ (hall m' h)
            · exact List.mem_append_right _ h
      · rintro σ H10 ⟨nw, wvs', v10', rfl, e10, hk10, hw10, hwp10, hf10, hnd10, hkid, hall⟩
        rw [Paired.len hbp, List.take_length] at hall
        have hd1 : ∀ m, m ∈ nw → m ∉ kn := fun m h1 h2 => by
          have := (List.nodup_append.mp hnd10).2.2 m h2 m h1
          exact this rfl
        have hI' : ReachI g x (a, 0, x.length) (kn ++ nw) (W0 ++ nw) (dn ++ [n]) := by
          have hw := List.nodup_append.mp hI.wd
          have hk := List.nodup_append.mp hnd10
          refine ⟨hnd10, ?_, ?_, fun m => ?_, fun m hm => ?_, fun m hm => ?_, fun m hm m' hk' => ?_, List.mem_append_left _ hI.root⟩
          · refine List.nodup_append.mpr ⟨hw.1, hk.2.1, fun m h1 m' h2 e => ?_⟩
            subst e
            exact hd1 m h2 ((hI.mem m).mpr (.inr (List.mem_append_left _ h1)))
          · refine List.nodup_append.mpr ⟨hI.dd, by simp, fun m h1 m' h2 e => ?_⟩
            rw [List.mem_singleton] at h2
            subst e
            exact hnd (h2 ▸ h1)
          · simp only [List.mem_append, hI.mem, List.mem_singleton]
            constructor
            · rintro ((h | h | h) | h)
              · exact .inl (.inl h)
              · exact .inr (.inl h)
              · exact .inl (.inr h)
              · exact .inr (.inr h)
            · rintro ((h | h) | h | h)
              · exact .inl (.inl h)
              · exact .inl (.inr (.inr h))
              · exact .inl (.inr (.inl h))
              · exact .inr h
          · intro h
            rcases List.mem_append.mp hm with h1 | h1
            · rcases List.mem_append.mp h with h2 | h2
              · exact hI.apart m h1 (List.mem_append_left _ h2)
              · exact hd1 m h2 ((hI.mem m).mpr (.inl h1))
            · rw [List.mem_singleton] at h1
              subst h1
              rcases List.mem_append.mp h with h2 | h2
              · exact hw.2.2 m h2 m (by simp) rfl
              · exact hd1 m h2 hnk
          · rcases List.mem_append.mp hm with h | h
            · exact hI.star m h
            · exact hns.trans (.one (hkid m h))
          · rcases List.mem_append.mp hm with h | h
            · exact List.mem_append_left _ (hI.clos m h m' hk')
            · rw [List.mem_singleton] at h
              subst h
              exact hall m' ((hws m').mpr hk')
        refine ⟨kn ++ nw, W0 ++ nw, dn ++ [n], wvs', kvs ++ [(keyN n, .ref D)], fun m => if m = n then sn else sm m, _, _, _, rfl, e49.tr e10, hk10, hw10, hwp10, hf10, ?_, hI', fun m hm => ?_, ?_⟩
        · refine Paired.app (paired_of (Paired.len hsv9) fun i kv m h1 h2 => ?_) (.cons ⟨rfl, ?_⟩ .nil)
          · obtain ⟨m', h3, h4⟩ := Paired.at' hsv9 h1
            rw [h2] at h3
            cases h3
            have hne : m ≠ n := fun q => hnd (q ▸ List.mem_of_getElem? h2)
            refine ⟨h4.1, ?_⟩
            simp only [if_neg hne]
            exact ListV.mono (P := WorkV) (fun _ _ _ _ => WorkV.mono) e10 h4.2
          · simp only [if_true]
            exact ListV.mono (P := WorkV) (fun _ _ _ _ => WorkV.mono) e10 hD9
        · rcases List.mem_append.mp hm with h | h
          · have hne : m ≠ n := fun q => hnd (q ▸ h)
            simp only [if_neg hne]
            exact hsm m h
          · rw [List.mem_singleton] at h
            subst h
            simp only [if_true]
            exact ⟨hsame, hslen⟩
        · have := hI'.le hwh
          rw [List.length_append] at this
          simp only [List.length_append, List.length_singleton]
          omega
end
end TW
set_option Elab.async false
set_option linter.all false
set_option maxRecDepth 100000
set_option maxHeartbeats 4000000
namespace TW
open PySem PySem.Spec PyProof.Rows L2
open Vaglrc (Sym Rule Grammar Node)
open TR (trim trims)
theorem ex_unlock {H H' : Hp} {d : Addr} {u : HO} (e : Ex (del H d) H') (h : H d = some u) : Ex H (upd H' d u) := fun b o q => by
  by_cases hb : b = d
  · subst hb; rw [upd_same, ← h]; exact q
  · rw [upd_ne hb]; exact e _ _ (by rw [del_ne hb]; exact q)
theorem SameV.del {H : Hp} {kvs k2 : List (List Key × V)} {keys : List Node} {same : Node → List Node} {p : Addr} (h : SameV H kvs keys same) (hp : H p = some (.dT k2)) : SameV (del H p) kvs keys same :=
  Paired.mono2 h fun kv n ⟨a, l, vs, e, b, c⟩ => ⟨a, l, vs, e, by rw [del_ne (fun q => by rw [q, hp] at b; cases b)]; exact b, Paired.mono2 c fun v m ⟨t, h1, h2⟩ => ⟨t, h1, by rw [del_ne (fun q => by rw [q, hp] at h2; cases h2)]; exact h2⟩⟩
theorem SameV.at_ {H : Hp} {kvs : List (List Key × V)} {keys : List Node} {same : Node → List Node} (h : SameV H kvs keys same) {i : Nat} {k : List Key} {v : V} (hi : kvs[i]? = some (k, v)) : ∃ n, keys[i]? = some n ∧ k = keyN n ∧ ListV WorkV H v (same n) := by
  obtain ⟨n, h1, h2⟩ := Paired.at' h hi
  exact ⟨n, h1, h2⟩
theorem knownD_take {l : List Node} {i : Nat} {k : List Key} {v : V} (h : (knownD l)[i]? = some (k, v)) : ∃ n, l[i]? = some n ∧ k = keyN n := by
  unfold knownD at h
  rw [List.getElem?_map] at h
  obtain ⟨n, h1, h2⟩ := Option.map_eq_some_iff.mp h
  cases h2
  exact ⟨n, h1, rfl⟩
theorem knownD_len {l : List Node} : (knownD l).length = l.length := by unfold knownD; rw [List.length_map]
theorem knownD_new {l : List Node} {n : Node} (h : n ∉ l) : putK (knownD l) (keyN n) (.bl true) = knownD (l ++ [n]) := by
  rw [putK_new _ (by rw [knownD_val, if_neg h])]
  unfold knownD
  rw [List.map_append]; rfl
theorem nodup_take_not {l : List Node} {i : Nat} {n : Node} (h : l.Nodup) (hi : l[i]? = some n) : n ∉ l.take i := by
  have hl := (List.getElem?_eq_some_iff.mp hi).1
  have e : l = l.take i ++ l.drop i := (List.take_append_drop i l).symm
  rw [e] at h
  have hd : n ∈ l.drop i := by
    rw [List.drop_eq_getElem_cons hl]
    rw [List.getElem?_eq_getElem hl] at hi
    rw [← Option.some.inj hi]; exact List.mem_cons_self
  intro hm
  exact (List.nodup_append.mp h).2.2 n hm n hd rfl
section
variable {P : Program} {w : World} {K : PySem.W.Frag} {mg : Str → Option Value} {base : Heap}
def sp_has_ring : Sp := fun vs H Q _ => ∃ (dp : Addr) (kvs : List (List Key × V)) (keys : List Node) (same : Node → List Node) (many : Nat), vs = [.ref dp, vN many] ∧ H dp = some (.dT kvs) ∧ SameV H kvs keys same ∧ keys.Nodup ∧ keys.length ≤ 12500 ∧ (∀ n ∈ keys, (same n).length ≤ 500000) ∧ many ≤ 1000 ∧
  ∀ H', Ex H H' → Q (.bl (decide (0 < (trims same many keys).length))) H'
theorem trims_sub {same : Node → List Node} : ∀ (k : Nat) (l : List Node), (trims same k l).Sublist l
  | 0, l => List.Sublist.refl _
  | k + 1, l => (trims_sub k (trim same l)).trans List.filter_sublist
abbrev s_has_ring : Stmt := topS 27
/-- 0 same, 1 many, 2 left, 3 work, 4 turn, 5 staying, 6 one -/
theorem sc_has_ring : FnScope ["same", "many", "left", "work", "turn", "staying", "one"] ["same", "many"] (defScope s_has_ring) := ⟨rfl, rfl, rfl, by decide +kernel, rfl, by decide +kernel, by decide +kernel⟩
theorem ok_has_ring {f : Addr} {fd : FuncData} (F : Fun K "has_ring" "has_ring" s_has_ring f fd) (T : Glob mg) : FnOk P w K mg base CX0 1 f fd ["same", "many"] sp_has_ring := by
  refine F.ok sc_has_ring (fun vs H Q E h => ?_) (fun cdv A outer s H vs Q E hr h => ?_)
  · obtain ⟨_, _, _, _, _, rfl, _⟩ := h
    rfl
  · obtain ⟨dp, kvs, keys, same, many, rfl, hdp, hsv, hnd, hkl, hsl, hm, ret⟩ := h
    have hu := huOf hr
    refine ⟨_, (pss_cons (ps_set (i := 2) sc_has_ring.nd rfl (Or.inr rfl) pe_dnewT)
    (pss_cons (ps_lock (ps_for PassesOwn.never rfl (pi_keys (pv 0)) (pg_name (i := 3) sc_has_ring.nd rfl (Or.inl rfl))
    (pss_one (ps_dput hu (pv 2) (pv 3) pe_bl rfl))))
    (pss_cons (ps_for PassesOwn.never rfl (pi_range1 (by rfl) T.range (pa_cons (pv 1) pa_nil)) (pg_name (i := 4) sc_has_ring.nd rfl (Or.inl rfl))
    (pss_cons (ps_set (i := 5) sc_has_ring.nd rfl (Or.inl rfl) pe_dnewT)
    (pss_cons (ps_lock (ps_for PassesOwn.never rfl (pi_keys (pv 2)) (pg_name (i := 3) sc_has_ring.nd rfl (Or.inl rfl))
    (pss_one (ps_if (pt_val (pe_callB (cr_any rfl) (by rfl) T.any (by decide +kernel) (pa_cons (pe_lc (own := [("one", 6)]) (g := (gName 6)) (tt := tYes) (te := (tDIn (tVar 6) (tVar 2))) rfl sc_has_ring.nd (pi_list (pe_dget hu (pv 0) (pv 3) (fun _ _ => rfl))) (blkOk_by (own := [("one", 6)]) (N := ["same", "many", "left", "work", "turn", "staying", "one"]) (sc := defScope s_has_ring) (by decide +kernel)) (fun _ _ _ _ _ => by exact (pg_name (i := 6) sc_has_ring.nd rfl (Or.inl rfl))) (fun _ _ _ _ _ => pts_nil) (fun _ _ _ _ _ => by exact (pe_cmp (pc_din hu (pv 6) (pv 2)) rfl))) pa_nil)))
    (pss_one (ps_dput hu (pv 5) (pv 3) pe_bl rfl))
    pss_nil))))
    (pss_one (ps_set (i := 2) sc_has_ring.nd rfl (Or.inr rfl) (pv 5))))))
    (pss_one (ps_ret (pe_cmpR op_gt (pe_callB call_len_dT (by rfl) T.len (by decide +kernel) (pa_cons (pv 2) pa_nil)) pe_int (nomark _))))))), ?_⟩
    have hkv : kvs.length = keys.length := Paired.len hsv
    refine fun lp hlp => ?_
    have hld : lp ≠ dp := fun q => by rw [q, hdp] at hlp; cases hlp
    have hlpd : del H dp lp = none := by rw [del_ne hld]; exact hlp
    -- for work in same: left[work] = True
    refine ⟨dp, .dT kvs, by rw [upd_ne (Ne.symm hld)]; exact hdp, trivial, fun od => ?_⟩
    have e0 : Ex (del H dp) (upd (upd H lp (.dT [])) dp (.frz od (.dT kvs))) := (del_ex.tr (Ex.new hlp)).mut del_same
    refine ⟨_, rfl, dp, od, rfl, .inr ⟨kvs, upd_same, for_it (walk_keysT (d := dp) (o := od) (kvs := kvs)) (fun i σ H' => ∃ (v3 : Option V), σ = [some (.ref dp), some (vN many), some (.ref lp), v3, none, none, none] ∧ Ex (del H dp) H' ∧ H' dp = some (.frz od (.dT kvs)) ∧ H' lp = some (.dT (knownD (keys.take i))))
      ⟨none, rfl, e0, upd_same, by rw [upd_ne hld]; exact upd_same⟩ (fun i σ H' _ ⟨_, _, _, h, _⟩ => h) ?_ ?_⟩⟩
    · rintro i v σ Hx H1 hi ⟨v3, rfl, e1, hd1, hl1⟩ ⟨rfl, k, vv, q, hk, rfl, hq⟩
      obtain ⟨n, hn, rfl, _⟩ := hsv.at_ hk
      have hnn := nodup_take_not hnd hn
      refine ⟨_, rfl, _, rfl, lp, _, rfl, DPut.t (k := keyN n) hl1 hq (small_lt ?_), ?_⟩
      · rw [knownD_len, List.length_take]; omega
      · rw [knownD_new hnn]
        refine ⟨_, rfl, e1.mut hlpd, by rw [upd_ne (Ne.symm hld)]; exact hd1, ?_⟩
        rw [upd_same, List.take_succ, hn]; rfl
    · rintro σ H1 ⟨v3, rfl, e1, hd1, hl1⟩
      rw [hkv, List.take_length] at hl1
      refine ⟨hd1, ?_⟩
      have e2 : Ex H (upd H1 dp (.dT kvs)) := ex_unlock e1 hdp
      have hl2 : upd H1 dp (.dT kvs) lp = some (.dT (knownD keys)) := by rw [upd_ne hld]; exact hl1
      generalize upd H1 dp (.dT kvs) = H2 at e2 hl2
      clear e0 e1 hd1 hl1
      refine ⟨_, rfl, _, rfl, ?_, ?_, for_range (fun t σ H' => ∃ (lp' : Addr) (v3 v4 v5 : Option V), σ = [some (.ref dp), some (vN many), some (.ref lp'), v3, v4, v5, none] ∧ Ex H H' ∧ H lp' = none ∧ H' lp' = some (.dT (knownD (trims same t keys)))) ⟨lp, _, _, _, rfl, e2, hlp, hl2⟩ ?_ ?_⟩
      · omega
      · omega
      · rintro t σ H3 ht ⟨lp', v3, v4, v5, rfl, e3, hlH, hl3⟩
        refine fun sp hsp => ?_
        have e4 : Ex H3 (upd H3 sp (.dT [])) := Ex.new hsp
        have hsl3 : sp ≠ lp' := fun q => by rw [q, hl3] at hsp; cases hsp
        have hspH : H sp = none := e3.back hsp
        have hLs := trims_sub (same := same) t keys
        have hLl := hLs.length_le
        have hLn := hLs.nodup hnd
        generalize hL : trims same t keys = L at hl3 hLs hLl hLn
        refine ⟨lp', .dT (knownD L), e4 _ _ hl3, trivial, fun od2 => ?_⟩
        refine ⟨_, rfl, lp', od2, rfl, .inr ⟨knownD L, upd_same, for_it (walk_keysT (d := lp') (o := od2) (kvs := knownD L)) (fun i σ H' => ∃ (v3 v4 : Option V), σ = [some (.ref dp), some (vN many), some (.ref lp'), v3, v4, some (.ref sp), none] ∧ Ex H H' ∧ H' lp' = some (.frz od2 (.dT (knownD L))) ∧ H' sp = some (.dT (knownD ((L.take i).filter fun n => (same n).any fun m => decide (m ∈ L)))))
          ⟨_, _, rfl, (e3.tr e4).mut hlH, upd_same, by rw [upd_ne hsl3]; exact upd_same⟩ (fun i σ H' _ ⟨_, _, _, _, h, _⟩ => h) ?_ ?_⟩⟩
        · rintro i v σ Hx H5 hi ⟨v3, v4, rfl, e5, hl5, hs5⟩ ⟨rfl, k, vv, q, hk, rfl, hq⟩
          obtain ⟨n, hn, rfl⟩ := knownD_take hk
          have hnL := List.mem_of_getElem? hn
          have hnk := hLs.subset hnL
          obtain ⟨sv, hsv1, sl, bvs, rfl, hbl, hbp⟩ := (hsv.val (m := n)).1 hnk
          obtain ⟨zs, hz1, hz2, hz3⟩ := Paired.pairs hbp
          have hzl : zs.length = (same n).length := by rw [hz2, List.length_map]
          have hsln := hsl n hnk
          refine ⟨_, rfl, _, rfl, dp, .ref sl, rfl, ?_, sl, rfl, ⟨_, SqL.of (e5 _ _ hbl)⟩, fun D hD => ?_⟩
          · rw [← hsv1]; exact DGet.t (k := keyN n) (e5 _ _ hdp) hq
          refine lcA (K := K) (ys := zs) (g := Prod.fst) (b := fun _ => true) (c := fun z => .bl (decide (z.2 ∈ L))) hD ((e5 _ _ hbl).trans (by rw [hz1])) (by omega) (fun _ => rfl) (fun _ _ _ _ => evb_yes) (fun z hz H' e' _ R hR => ?_) fun H6 e6 hDv => ?_
          · obtain ⟨za, hza1, hza2⟩ := hz3 z hz
            refine ⟨_, rfl, _, rfl, lp', _, rfl, .inr ⟨knownD L, keyN z.2, za, .inr ⟨od2, e' _ _ hl5⟩, hza1, (e5.tr e') _ _ hza2, rfl⟩, ?_⟩
            rw [knownD_val]
            have : (.bl (if z.2 ∈ L then some (V.bl true) else none).isSome : V) = .bl (decide (z.2 ∈ L)) := by
              by_cases h : z.2 ∈ L <;> simp [h]
            rw [this]
            exact hR _ (Ex.refl _)
          · refine ⟨D, zs.map fun z => decide (z.2 ∈ L), rfl, SqL.of (by rw [hDv, filter_true, List.map_map]; rfl), _, rfl, ?_⟩
            have hany : (zs.map fun z => decide (z.2 ∈ L)).any id = (same n).any fun m => decide (m ∈ L) := by rw [hz2, List.any_map, List.any_map]; rfl
            rw [hany]
            have htk : (L.take (i + 1)).filter (fun n => (same n).any fun m => decide (m ∈ L)) = (L.take i).filter (fun n => (same n).any fun m => decide (m ∈ L)) ++ if ((same n).any fun m => decide (m ∈ L)) = true then [n] else [] := by
              rw [List.take_succ, hn, List.filter_append]
              show _ ++ List.filter _ [n] = _
              rw [List.filter_cons, List.filter_nil]
            by_cases hc : ((same n).any fun m => decide (m ∈ L)) = true
            · rw [hc]
              refine iteT ?_
              refine ⟨_, rfl, _, rfl, sp, _, rfl, DPut.t (k := keyN n) (e6 _ _ hs5) (e6 _ _ hq) (small_lt ?_), ?_⟩
              · rw [knownD_len]
                have := List.length_filter_le (fun n => (same n).any fun m => decide (m ∈ L)) (L.take i)
                rw [List.length_take] at this
                omega
              · rw [knownD_new (fun h => nodup_take_not hLn hn (List.mem_filter.mp h).1)]
                refine ⟨_, _, rfl, (e5.tr e6).mut hspH, by rw [upd_ne (Ne.symm hsl3)]; exact e6 _ _ hl5, ?_⟩
                rw [upd_same, htk, if_pos hc]
            · rw [Bool.not_eq_true] at hc
              rw [hc]
              refine iteF ?_
              refine ⟨_, _, rfl, e5.tr e6, e6 _ _ hl5, ?_⟩
              rw [e6 _ _ hs5, htk, hc, if_neg Bool.false_ne_true, List.append_nil]
        · rintro σ H5 ⟨v3, v4, rfl, e5, hl5, hs5⟩
          rw [knownD_len, List.take_length] at hs5
          refine ⟨hl5, _, rfl, sp, _, _, _, rfl, e5.mut hlH, hspH, ?_⟩
          rw [upd_ne hsl3, hs5, TR.trims_succ, hL]
          rfl
      · rw [show ((many : Int)).toNat = many by omega]
        rintro σ H3 ⟨lp', v3, v4, v5, rfl, e3, hlH, hl3⟩
        refine ⟨_, rfl, lp', _, rfl, hl3, _, _, rfl, rfl, ?_⟩
        rw [knownD_len]
        have : (decide ((0 : Int) < (((trims same many keys).length : Nat) : Int))) = decide (0 < (trims same many keys).length) := by rw [decide_eq_decide]; omega
        show Q (.bl (decide ((0 : Int) < (((trims same many keys).length : Nat) : Int)))) H3
        rw [this]
        exact ret _ e3
end
end TW
set_option Elab.async false
set_option linter.all false
set_option maxRecDepth 100000
set_option maxHeartbeats 4000000
namespace TW
open PySem PySem.Spec PyProof.Rows L2
open Vaglrc (Sym Rule Grammar Node)
open TR (symF PathF tbl Up WfG comeTo Path parts firstRoot emit)
/-- a symbol with its piece -/
abbrev Part := Sym × Nat × Nat
def PartV (H : Hp) (v : V) (m : Part) : Prop := ∃ a sa, v = .ref a ∧ H a = some (.tup [.ref sa, vN m.2.1, vN m.2.2]) ∧ H sa = some (.tup [.int (symT m.1).1, .int (symT m.1).2.1, .int (symT m.1).2.2])
theorem PartV.mono {H H' : Hp} {v : V} {m : Part} (e : Ex H H') (h : PartV H v m) : PartV H' v m := by
  obtain ⟨a, s, q, p, r⟩ := h; exact ⟨a, s, q, e _ _ p, e _ _ r⟩
theorem PartV.del {H : Hp} {v : V} {m : Part} {p : Addr} {vs : List V} (h : PartV H v m) (hp : H p = some (.lst vs)) : PartV (del H p) v m := by
  obtain ⟨a, s, q, h1, h2⟩ := h
  exact ⟨a, s, q, by rw [del_ne (fun e => by rw [e, hp] at h1; cases h1)]; exact h1, by rw [del_ne (fun e => by rw [e, hp] at h2; cases h2)]; exact h2⟩
theorem PartV.dels {H : Hp} {v : V} {m : Part} {ps : List Addr} (h : PartV H v m) (n : Nt H ps) : PartV (dels H ps) v m := by
  obtain ⟨a, s, q, h1, h2⟩ := h
  have no : ∀ b xs, H b = some (.tup xs) → b ∉ ps := fun b xs hb hm => by
    obtain ⟨o, q1, q2⟩ := n b hm
    rw [hb] at q1; cases q1
    exact q2 _ rfl
  exact ⟨a, s, q, by rw [dels_ne (no a _ h1)]; exact h1, by rw [dels_ne (no s _ h2)]; exact h2⟩
theorem symEnds_up {g : Grammar} {x : List Nat} {s : Sym} {j : Nat} : Up (Vaglrc.symEnds x (Vaglrc.spansOf g x) s j) := by
  cases s with
  | non a => exact TR.spans_good.up a j
  | range lo hi =>
    show Up (match x[j]? with | some b => if lo ≤ b then (if b ≤ hi then [j + 1] else []) else [] | none => [])
    split
    · split
      · split <;> simp [Up]
      · exact List.Pairwise.nil
    · exact List.Pairwise.nil
theorem find_least {p : Nat → Bool} {m : Nat} : ∀ {L : List Nat}, Up L → m ∈ L → p m = true → (∀ y ∈ L, p y = true → m ≤ y) → L.find? p = some m
  | [], _, h, _, _ => by simp at h
  | y :: L, hu, hm, hp, hl => by
    have hu' := List.pairwise_cons.mp hu
    by_cases hy : p y = true
    · rw [List.find?_cons, hy]
      simp only
      rcases List.mem_cons.mp hm with e | h
      · rw [e]
      · have h1 := hu'.1 m h
        have h2 := hl y List.mem_cons_self hy
        omega
    · rw [List.find?_cons]
      simp only [Bool.not_eq_true] at hy
      rw [hy]
      simp only
      refine find_least hu'.2 ?_ hp fun z hz => hl z (List.mem_cons_of_mem _ hz)
      rcases List.mem_cons.mp hm with e | h
      · rw [e, hy] at hp; cases hp
      · exact h
section
variable {P : Program} {w : World} {K : PySem.W.Frag} {mg : Str → Option Value} {base : Heap}
def sp_first_parts : Sp := fun vs H Q _ => ∃ (e sg sy : V) (g : Grammar) (x : List Nat) (l : List Sym) (b k : Nat), vs = [e, sg, sy, vN b, vN k] ∧ TabV H e sg g x ∧ SymsV H sy l ∧ (∀ s ∈ l, SymIn g.nons s) ∧ k ≤ x.length ∧ l.length ≤ 8 ∧
  (¬ Path x (Vaglrc.spansOf g x) l b k → ∀ H', Ex H H' → Q .non H') ∧
  (Path x (Vaglrc.spansOf g x) l b k → ∀ H' p, Ex H H' → H p = none → ListV PartV H' (.ref p) (parts x (Vaglrc.spansOf g x) k l b) → Q (.ref p) H')
abbrev s_first_parts : Stmt := topS 28
/-- 0 ends, 1 signs, 2 symbols, 3 begin, 4 end, 5 back, 6 found, 7 at, 8 symbol, 9 further, 10 stop, 11 place -/
theorem sc_first_parts : FnScope ["ends", "signs", "symbols", "begin", "end", "back", "found", "at", "symbol", "further", "stop", "place"] ["ends", "signs", "symbols", "begin", "end"] (defScope s_first_parts) := ⟨rfl, rfl, rfl, by decide +kernel, rfl, by decide +kernel, by decide +kernel⟩
theorem ok_first_parts {f : Addr} {fd : FuncData} (F : Fun K "first_parts" "first_parts" s_first_parts f fd) (T : Glob mg) (F_symbol_ends : FnC P w K mg base CX0 1 "symbol_ends" ["ends", "signs", "symbol", "at"] sp_symbol_ends)
    (F_comings : FnC P w K mg base CX0 2 "comings" ["ends", "signs", "symbols", "end"] sp_comings) :
    FnOk P w K mg base CX0 3 f fd ["ends", "signs", "symbols", "begin", "end"] sp_first_parts := by
  refine F.ok sc_first_parts (fun vs H Q E h => ?_) (fun cdv A outer s H vs Q E hr h => ?_)
  · obtain ⟨_, _, _, _, _, _, _, _, rfl, _⟩ := h
    rfl
  · obtain ⟨e, sg, sy, g, x, l, b, k, rfl, hT, hsy, hin, hk, hl8, retN, ret⟩ := h
    refine ⟨_, (pss_cons (ps_set (i := 5) sc_first_parts.nd rfl (Or.inl rfl) (pe_fc F_comings (hr.mono (by decide)) pass0 (pa_cons (pv 0) (pa_cons (pv 1) (pa_cons (pv 2) (pa_cons (pv 4) pa_nil))))))
    (pss_cons (ps_if (pt_cmpR op_notIn_seq (pv 3) (pe_ix ix_list (pv 5) pe_int (fun _ _ => rfl)) (by rfl))
    (pss_one (ps_ret pe_non))
    pss_nil)
    (pss_cons (ps_set (i := 6) sc_first_parts.nd rfl (Or.inl rfl) (pe_lst pa_nil))
    (pss_cons (ps_set (i := 7) sc_first_parts.nd rfl (Or.inl rfl) (pv 3))
    (pss_cons (ps_for PassesOwn.never rfl (pi_zip (by rfl) T.zip (pa_cons (pv 2) (pa_cons (pe_slice sl_list (pv 5) (po_some pe_int) po_none) pa_nil))) (pg_tup rfl (pgs_cons (pg_name (i := 8) sc_first_parts.nd rfl (Or.inl rfl)) (pgs_cons (pg_name (i := 9) sc_first_parts.nd rfl (Or.inr rfl)) pgs_nil)))
    (pss_cons (ps_set (i := 10) sc_first_parts.nd rfl (Or.inl rfl) (pe_callB (cr_min rfl) (by rfl) T.min (by decide +kernel) (pa_cons (pe_lc (own := [("place", 11)]) (g := (gName 11)) (tt := (tTest (tOp (rIn K false) (tVar 11) (tVar 9)))) (te := (tVar 11)) rfl sc_first_parts.nd (pi_list (pe_fc F_symbol_ends (hr.mono (by decide)) pass0 (pa_cons (pv 0) (pa_cons (pv 1) (pa_cons (pv 8) (pa_cons (pv 7) pa_nil)))))) (blkOk_by (own := [("place", 11)]) (N := ["ends", "signs", "symbols", "begin", "end", "back", "found", "at", "symbol", "further", "stop", "place"]) (sc := defScope s_first_parts) (by decide +kernel)) (fun _ _ _ _ _ => by exact (pg_name (i := 11) sc_first_parts.nd rfl (Or.inl rfl))) (fun _ _ _ _ _ => by exact (pts_one (pt_cmpR op_in_seq (pv 11) (pv 9) (by rfl)))) (fun _ _ _ _ _ => by exact (pv 11))) pa_nil)))
    (pss_cons (ps_expr (pe_bm PySem.F.plainAttrs_list PySem.F.slot_list_append PySem.F.type_list_append mt_append (pv 6) (pa_cons (pe_tup (pa_cons (pv 8) (pa_cons (pv 7) (pa_cons (pv 10) pa_nil)))) pa_nil)))
    (pss_one (ps_set (i := 7) sc_first_parts.nd rfl (Or.inl rfl) (pv 10))))))
    (pss_one (ps_ret (pv 6)))))))), ?_⟩
    have hn24 := hT.n
    have gd : TR.Good g x (Vaglrc.spansOf g x) := TR.spans_good
    obtain ⟨sl, svs, rfl, hsl, hsp⟩ := id hsy
    have hsv : svs.length = l.length := Paired.len hsp
    refine ⟨_, rfl, _, rfl, _, rfl, _, rfl, e, sg, .ref sl, g, x, l, k, rfl, hT, hsy, hin, hk, by omega, ?_⟩
    rintro bv H1 e1 ⟨bl, bvs, rfl, hbl, hbp⟩
    have hbn : bvs.length = l.length + 1 := by rw [Paired.len hbp, comesAll_len]
    obtain ⟨c0v, hc0, c0, rfl, hc0l⟩ := Paired.at hbp (comesAll_get (Nat.zero_le _))
    rw [List.drop_zero] at hc0l
    -- if begin not in back[0]
    refine ⟨_, rfl, _, rfl, bl, _, _, _, rfl, rfl, SqL.of hbl, atI_nat (j := 0) hc0, c0, _, rfl, .inl (SqL.of hc0l), rfl, flat_vN _, _, rfl, ?_⟩
    show if (!inV _ _) = true then _ else _
    rw [inV_vN]
    by_cases hb : b ∈ comeTo x (Vaglrc.spansOf g x) k l
    case neg =>
      rw [decide_eq_false hb]
      refine iteT ?_
      exact retN (fun p => hb ((TR.mem_comeTo gd).mpr p)) _ e1
    rw [decide_eq_true hb]
    refine iteF ?_
    have hpath := (TR.mem_comeTo gd).mp hb
    refine ⟨nil_line, fun fo hfo => ?_⟩
    have e2 : Ex H1 (upd H1 fo (.lst [])) := Ex.new hfo
    have hfoH : H fo = none := e1.back hfo
    refine ⟨_, rfl, _, rfl, _, rfl, 1, rfl, bl, bvs, rfl, SqL.of (e2 _ _ hbl), fun bs hbs => ?_⟩
    have e3 := e2.tr (Ex.new (o := .lst (cutV bvs (some 1) none)) hbs)
    have hbsf : bs ≠ fo := fun q => by rw [q, upd_same] at hbs; cases hbs
    have hcut : cutV bvs (some 1) none = bvs.drop 1 := cutV_from (a := 1)
    refine ⟨sl, bs, svs, _, rfl, SqL.of ((e1.tr e3) _ _ hsl), SqL.of upd_same, for_it (walk_zip (n := l.length) (xs := svs) (ys := cutV bvs (some 1) none) ?_) (fun i σ H' => ∃ (at_ : Nat) (dn : List Part) (v8 v9 v10 : Option V),
      σ = [some e, some sg, some (.ref sl), some (vN b), some (vN k), some (.ref bl), some (.ref fo), some (vN at_), v8, v9, v10, none] ∧ Ex H1 H' ∧ H' bs = some (.lst (cutV bvs (some 1) none)) ∧ MList PartV H' fo dn ∧ dn.length = i ∧
      parts x (Vaglrc.spansOf g x) k l b = dn ++ parts x (Vaglrc.spansOf g x) k (l.drop i) at_ ∧ Path x (Vaglrc.spansOf g x) (l.drop i) at_ k)
      ⟨b, [], none, none, none, rfl, e3, upd_same, ?_, rfl, rfl, hpath⟩ (fun i σ H' _ ⟨_, _, _, _, _, _, e4, hbs4, _⟩ => ⟨SqL.of ((e1.tr e4) _ _ hsl), SqL.of hbs4⟩) ?_ ?_⟩
    · rw [hcut, List.length_drop]; omega
    · exact MList.mono (P := PartV) (fun _ _ _ _ => PartV.mono) (Ex.new hbs) (MList.new hfo)
    · rintro i v σ H3 H3' hi ⟨at_, dn, v8, v9, v10, rfl, e4, hbs4, hM, hdl, hpt, hp⟩ ⟨Tt, va, vb, rfl, hTn, rfl, hva, hvb⟩
      obtain ⟨s1, hs1, hsv1⟩ := Paired.at' hsp hva
      have hs1m := List.mem_of_getElem? hs1
      have hvb : (cutV bvs (some 1) none)[i]? = some vb := hvb
      rw [hcut, List.getElem?_drop, Nat.add_comm] at hvb
      obtain ⟨fu', hfu', fu, rfl, hfu⟩ := Paired.at' hbp hvb
      rw [comesAll_get (by omega)] at hfu'
      cases hfu'
      obtain ⟨sa, rfl, hsa⟩ := hsv1
      have hdrop : l.drop i = s1 :: l.drop (i + 1) := by
        have hlt := (List.getElem?_eq_some_iff.mp hs1).1
        rw [List.drop_eq_getElem_cons hlt]
        rw [List.getElem?_eq_getElem hlt] at hs1
        rw [Option.some.inj hs1]
      rw [hdrop] at hp hpt
      obtain ⟨q0, hq0, hq1⟩ := hp
      have hat := symEnds_le hq0
      have e5 : Ex H3 (upd H3 Tt (.tup [.ref sa, .ref fu])) := Ex.new hTn
      have e45 := e4.tr e5
      have hTb : Tt ≠ bs := fun q => by rw [q, hbs4] at hTn; cases hTn
      refine ⟨Tt, _, rfl, SqT.of upd_same, rfl, _, _, rfl, _, _, rfl, rfl, ?_⟩
      -- stop = min([...])
      refine ⟨_, rfl, _, rfl, _, rfl, _, rfl, e, sg, .ref sa, x.length, g.nons, endsT g x, x, s1, at_, rfl, hT.e.mono (e1.tr e45), hT.s.mono (e1.tr e45), ⟨sa, rfl, (e1.tr e45) _ _ hsa⟩, hin s1 hs1m, by omega, ?_⟩
      rintro v2 H5 e7 ⟨ll, rfl, hll⟩
      rw [symF_T] at hll
      have hyl := symEnds_len (g := g) (x := x) (s := s1) (j := at_)
      refine ⟨ll, rfl, ⟨_, SqL.of hll⟩, fun D hD => ?_⟩
      refine lcA (K := K) (ys := Vaglrc.symEnds x (Vaglrc.spansOf g x) s1 at_) (g := vN) (b := fun p => decide (p ∈ comeTo x (Vaglrc.spansOf g x) k (l.drop (i + 1)))) (c := vN) hD hll (by omega) (fun _ => rfl) (fun p hp H' e' R hR => ?_) (fun p hp H' e' _ R hR => ⟨_, rfl, hR _ (Ex.refl _)⟩) fun H6 e8 hDv => ?_
      · refine ⟨_, rfl, _, rfl, fu, _, rfl, .inl (SqL.of (e' _ _ ((e45.tr e7) _ _ hfu))), rfl, flat_vN _, _, rfl, ?_⟩
        show R (inV _ _) _
        rw [inV_vN]
        exact hR _ (Ex.refl _)
      · have hq0m : q0 ∈ (Vaglrc.symEnds x (Vaglrc.spansOf g x) s1 at_).filter fun p => decide (p ∈ comeTo x (Vaglrc.spansOf g x) k (l.drop (i + 1))) := List.mem_filter.mpr ⟨hq0, decide_eq_true ((TR.mem_comeTo gd).mpr hq1)⟩
        refine ⟨D, ((Vaglrc.symEnds x (Vaglrc.spansOf g x) s1 at_).filter fun p => decide (p ∈ comeTo x (Vaglrc.spansOf g x) k (l.drop (i + 1)))).map fun (n : Nat) => (n : Int), rfl, SqL.of (by rw [hDv, vN_cast]), by rw [List.length_map]; exact List.length_pos_of_mem hq0m, fun m hm hmin => ?_⟩
        obtain ⟨q, hq, rfl⟩ := mem_castI.mp hm
        obtain ⟨hqs, hqc⟩ := List.mem_filter.mp hq
        have hfind : (Vaglrc.symEnds x (Vaglrc.spansOf g x) s1 at_).find? (fun q => decide (q ∈ comeTo x (Vaglrc.spansOf g x) k (l.drop (i + 1)))) = some q := find_least symEnds_up hqs hqc fun y hy hyc => by
          have := hmin (y : Int) (mem_castI.mpr ⟨y, List.mem_filter.mpr ⟨hy, hyc⟩, rfl⟩)
          omega
        have hpq : parts x (Vaglrc.spansOf g x) k (s1 :: l.drop (i + 1)) at_ = (s1, at_, q) :: parts x (Vaglrc.spansOf g x) k (l.drop (i + 1)) q := by
          show (match (Vaglrc.symEnds x (Vaglrc.spansOf g x) s1 at_).find? fun q => decide (q ∈ comeTo x (Vaglrc.spansOf g x) k (l.drop (i + 1))) with | some q => (s1, at_, q) :: parts x (Vaglrc.spansOf g x) k (l.drop (i + 1)) q | none => []) = _
          rw [hfind]
        obtain ⟨vs, hv, hp⟩ := hM
        have hvl := Paired.len hp
        have e58 := (e5.tr e7).tr e8
        have hv6 := e58 _ _ hv
        refine ⟨_, rfl, .inl ⟨rfl, _, SqL.of hv6⟩, _, rfl, _, rfl, _, rfl, three_line, fun tp htp => ?_⟩
        have e9 : Ex H6 (upd H6 tp (.tup [.ref sa, vN at_, vN q])) := Ex.new htp
        have htf : tp ≠ fo := fun q => by rw [q, hv6] at htp; cases htp
        have hsaf : sa ≠ fo := fun q => by rw [q, hfoH] at hsa; cases hsa
        refine ⟨fo, vs, _, rfl, rfl, e9 _ _ hv6, small_lt (by omega), ?_⟩
        refine ⟨_, rfl, q, dn ++ [(s1, at_, q)], _, _, _, rfl, ((e4.tr e58).tr e9).mut hfo, by rw [upd_ne hbsf]; exact (e58.tr e9) _ _ hbs4, ?_, by rw [List.length_append, hdl]; rfl, ?_, (TR.mem_comeTo gd).mp (of_decide_eq_true hqc)⟩
        · refine MList.snoc (e9 _ _ hv6) (Paired.mono2 hp fun v m q => PartV.mono (del_mono (e58.tr e9)) q) ⟨tp, sa, rfl, ?_, ?_⟩
          · rw [del_ne htf]; exact upd_same
          · rw [del_ne hsaf]; exact ((e1.tr (e4.tr e58)).tr e9) _ _ hsa
        · rw [hpt, hpq]; simp
    · rintro σ H3 ⟨at_, dn, v8, v9, v10, rfl, e4, hbs4, hM, hdl, hpt, hp⟩
      rw [List.drop_length] at hpt
      have hpt' : parts x (Vaglrc.spansOf g x) k l b = dn := by rw [hpt]; exact List.append_nil _
      refine ⟨_, rfl, ret hpath H3 fo (e1.tr e4) hfoH ?_⟩
      rw [hpt']
      exact MList.toV (P := PartV) (fun _ _ _ _ => PartV.mono) hM
end
end TW
set_option Elab.async false
set_option linter.all false
set_option maxRecDepth 100000
set_option maxHeartbeats 4000000
namespace TW
open PySem PySem.Spec PyProof.Rows L2
open Vaglrc (Sym Rule Grammar Node)
open TR (symF PathF tbl Up WfG comeTo Path parts firstRoot emit)
section
variable {P : Program} {w : World} {K : PySem.W.Frag} {mg : Str → Option Value} {base : Heap}
def sp_first_root : Sp := fun vs H Q _ => ∃ (e sg rw wv : V) (g : Grammar) (x : List Nat) (rules : List (Rule × Int)) (n : Node), vs = [e, sg, rw, wv] ∧ TabV H e sg g x ∧ RulesV H rw rules ∧ RulesOk g rules ∧ WorkV H wv n ∧ n.2.2 ≤ x.length ∧
  (∃ r ∈ g.rules, r.lhs = n.1 ∧ Path x (Vaglrc.spansOf g x) r.rhs n.2.1 n.2.2) ∧
  ∀ H' p q m r, Ex H H' → H p = none → H' p = some (.tup [vN m, .ref q]) → H q = none → ListV PartV H' (.ref q) (parts x (Vaglrc.spansOf g x) n.2.2 r.rhs n.2.1) → g.rules[m]? = some r → r.lhs = n.1 → Path x (Vaglrc.spansOf g x) r.rhs n.2.1 n.2.2 →
    firstRoot x (Vaglrc.spansOf g x) n.1 n.2.1 n.2.2 0 g.rules = some (m, parts x (Vaglrc.spansOf g x) n.2.2 r.rhs n.2.1) → Q (.ref p) H'
abbrev s_first_root : Stmt := topS 29
/-- 0 ends, 1 signs, 2 rules, 3 work, 4 number, 5 rule, 6 parts -/
theorem sc_first_root : FnScope ["ends", "signs", "rules", "work", "number", "rule", "parts"] ["ends", "signs", "rules", "work"] (defScope s_first_root) := ⟨rfl, rfl, rfl, by decide +kernel, rfl, by decide +kernel, by decide +kernel⟩
theorem ok_first_root {f : Addr} {fd : FuncData} (F : Fun K "first_root" "first_root" s_first_root f fd) (T : Glob mg) (F_first_parts : FnC P w K mg base CX0 3 "first_parts" ["ends", "signs", "symbols", "begin", "end"] sp_first_parts) :
    FnOk P w K mg base CX0 4 f fd ["ends", "signs", "rules", "work"] sp_first_root := by
  refine F.ok sc_first_root (fun vs H Q E h => ?_) (fun cdv A outer s H vs Q E hr h => ?_)
  · obtain ⟨_, _, _, _, _, _, _, _, rfl, _⟩ := h
    rfl
  · obtain ⟨e, sg, rw, wv, g, x, rules, n, rfl, hT, ⟨rl, rvs, rfl, hrl, hrp⟩, ok, ⟨wa, rfl, hwa⟩, hn2, hex, ret⟩ := h
    refine ⟨_, (pss_cons (ps_for PassesOwn.never rfl (pi_enum (by rfl) T.enumerate (pa_cons (pv 2) pa_nil)) (pg_tup rfl (pgs_cons (pg_name (i := 4) sc_first_root.nd rfl (Or.inl rfl)) (pgs_cons (pg_name (i := 5) sc_first_root.nd rfl (Or.inl rfl)) pgs_nil)))
    (pss_one (ps_if (pt_cmpR op_eq (pe_ix ix_tup (pv 5) pe_int (fun _ _ => rfl)) (pe_ix ix_tup (pv 3) pe_int (fun _ _ => rfl)) (nomark _))
    (pss_cons (ps_set (i := 6) sc_first_root.nd rfl (Or.inl rfl) (pe_fc F_first_parts (hr.mono (by decide)) pass0 (pa_cons (pv 0) (pa_cons (pv 1) (pa_cons (pe_ix ix_tup (pv 5) pe_int (fun _ _ => rfl)) (pa_cons (pe_ix ix_tup (pv 3) pe_int (fun _ _ => rfl)) (pa_cons (pe_ix ix_tup (pv 3) pe_int (fun _ _ => rfl)) pa_nil)))))))
    (pss_one (ps_if (pt_cmpR op_notN (pv 6) pe_non (nomark _))
    (pss_one (ps_ret (pe_tup (pa_cons (pv 4) (pa_cons (pv 6) pa_nil)))))
    pss_nil)))
    pss_nil)))
    (pss_one (ps_ret pe_non))), ?_⟩
    have gd : TR.Good g x (Vaglrc.spansOf g x) := TR.spans_good
    obtain ⟨m, r0, hm, hlh, hpa, hfr, hmin⟩ := TR.firstRoot_spec gd (k := 0) hex
    rw [Nat.zero_add] at hfr
    have hgl : g.rules.length = rules.length := by rw [← ok.map, List.length_map]
    have hml := (List.getElem?_eq_some_iff.mp hm).1
    have hrvl : rvs.length = rules.length := Paired.len hrp
    refine ⟨_, rfl, rl, _, rfl, SqL.of hrl, for_it (walk_enum (xs := rvs)) (fun i σ H' => ∃ (v4 v5 v6 : Option V), σ = [some e, some sg, some (.ref rl), some (.ref wa), v4, v5, v6] ∧ Ex H H' ∧ i ≤ m)
      ⟨none, none, none, rfl, Ex.refl H, Nat.zero_le _⟩ (fun i σ H' _ ⟨_, _, _, _, e2, _⟩ => SqL.of (e2 _ _ hrl)) ?_ ?_⟩
    · rintro i v σ H2 H3 hi ⟨v4, v5, v6, rfl, e2, him⟩ ⟨Tt, va, vb, rfl, hTn, rfl, hva, hvb⟩
      cases Option.some.inj hva
      have hvb : rvs[i]? = some vb := hvb
      obtain ⟨r, hr, ra, sv, rfl, hra, hsv⟩ := Paired.at' hrp hvb
      have hrm := List.mem_of_getElem? hr
      have hgr : g.rules[i]? = some r.1 := by rw [← ok.map, List.getElem?_map, hr]; rfl
      have e3 : Ex H (upd H2 Tt (.tup [.int (i : Nat), .ref ra])) := e2.tr (Ex.new hTn)
      refine ⟨Tt, _, rfl, SqT.of upd_same, rfl, _, _, rfl, _, _, rfl, rfl, ?_⟩
      refine ⟨_, rfl, ra, _, _, _, rfl, rfl, SqT.of (e3 _ _ hra), atI_nat (j := 0) rfl, _, rfl, wa, _, _, _, rfl, rfl, SqT.of (e3 _ _ hwa), atI_nat (j := 0) rfl, rfl, _, rfl, ?_⟩
      rw [vN_eq]
      have next : ¬ (r.1.lhs = n.1 ∧ Path x (Vaglrc.spansOf g x) r.1.rhs n.2.1 n.2.2) → i + 1 ≤ m := fun hno => by
        rcases Nat.lt_or_ge i m with h | h
        · exact h
        · have : i = m := by omega
          subst this
          rw [hgr] at hm
          cases hm
          exact absurd ⟨hlh, hpa⟩ hno
      by_cases hc : r.1.lhs = n.1
      · rw [decide_eq_true hc]
        refine iteT ?_
        refine ⟨_, rfl, _, rfl, _, rfl, ra, _, _, _, rfl, rfl, SqT.of (e3 _ _ hra), atI_nat (j := 1) rfl, _, rfl, wa, _, _, _, rfl, rfl, SqT.of (e3 _ _ hwa), atI_nat (j := 1) rfl, _, rfl, wa, _, _, _, rfl, rfl, SqT.of (e3 _ _ hwa), atI_nat (j := 2) rfl,
          e, sg, sv, g, x, r.1.rhs, n.2.1, n.2.2, rfl, hT.mono e3, hsv.mono e3, ok.symIn hrm, hn2, ok.short r hrm, fun hno H4 e4 => ?_, fun hp H4 q e4 hq hqv => ?_⟩
        · refine ⟨_, rfl, rfl, _, rfl, ?_⟩
          rw [show (!decide (V.non = V.non)) = false by simp]
          refine iteF ?_
          exact ⟨_, _, _, rfl, e3.tr e4, next fun h => hno h.2⟩
        · refine ⟨_, rfl, rfl, _, rfl, ?_⟩
          rw [show (!decide (V.ref q = V.non)) = true by simp]
          refine iteT ?_
          have him2 : i = m := by
            rcases Nat.lt_or_ge i m with h | h
            · exact absurd hp (hmin i h r.1 hgr hc)
            · omega
          subst him2
          rw [hgr] at hm
          cases hm
          have hq4 : q ≠ Tt := fun q2 => by rw [q2, upd_same] at hq; cases hq
          refine ⟨_, rfl, _, rfl, two_line, fun p hp0 => ?_⟩
          exact ret _ p q i r.1 ((e3.tr e4).tr (Ex.new hp0)) ((e3.tr e4).back hp0) upd_same (e3.back hq) (ListV.mono (P := PartV) (fun _ _ _ _ => PartV.mono) (Ex.new hp0) hqv) hgr hlh hpa hfr
      · rw [decide_eq_false hc]
        refine iteF ?_
        exact ⟨_, _, _, rfl, e3, next fun h => hc h.1⟩
    · rintro σ H2 ⟨v4, v5, v6, rfl, e2, him⟩
      omega
end
end TW
set_option Elab.async false
set_option linter.all false
set_option maxRecDepth 100000
set_option maxHeartbeats 4000000
namespace TW
open PySem PySem.Spec PyProof.Rows L2
open Vaglrc (Sym Rule Grammar Node)
open TR (symF PathF tbl Up WfG comeTo Path parts firstRoot emit)
/-- the holes that rules are added for, by number -/
def HoleOk (rules : List (Rule × Int)) (hole : Nat → Option Nat) : Prop := ∀ m r, rules[m]? = some r → (r.2 = -1 ∧ hole m = none) ∨ ∃ h : Nat, r.2 = (h : Int) ∧ hole m = some h
section
variable {P : Program} {w : World} {K : PySem.W.Frag} {mg : Str → Option Value} {base : Heap}
def sp_first_term : Sp := fun vs H Q _ => ∃ (e sg rw : V) (g : Grammar) (x : List Nat) (rules : List (Rule × Int)) (hole : Nat → Option Nat) (a : Nat), vs = [e, sg, rw, vN a] ∧ TabV H e sg g x ∧ RulesV H rw rules ∧ RulesOk g rules ∧ HoleOk rules hole ∧ x.length ∈ Vaglrc.ends (Vaglrc.spansOf g x) a 0 ∧
  ∀ H' l, Ex H H' → H l = none → H' l = some (.lst ((emit x (Vaglrc.spansOf g x) g.rules hole 401 [(.non a, 0, x.length)]).map vN)) → Q (.ref l) H'
abbrev s_first_term : Stmt := topS 30
/-- 0 ends, 1 signs, 2 rules, 3 nonterminal, 4 waiting, 5 found, 6 symbol, 7 begin, 8 end, 9 number, 10 parts, 11 hole -/
theorem sc_first_term : FnScope ["ends", "signs", "rules", "nonterminal", "waiting", "found", "symbol", "begin", "end", "number", "parts", "hole"] ["ends", "signs", "rules", "nonterminal"] (defScope s_first_term) := ⟨rfl, rfl, rfl, by decide +kernel, rfl, by decide +kernel, by decide +kernel⟩
theorem ok_first_term {f : Addr} {fd : FuncData} (F : Fun K "first_term" "first_term" s_first_term f fd) (T : Glob mg) (F_first_root : FnC P w K mg base CX0 4 "first_root" ["ends", "signs", "rules", "work"] sp_first_root) :
    FnOk P w K mg base CX0 5 f fd ["ends", "signs", "rules", "nonterminal"] sp_first_term := by
  refine F.ok sc_first_term (fun vs H Q E h => ?_) (fun cdv A outer s H vs Q E hr h => ?_)
  · obtain ⟨_, _, _, _, _, _, _, _, rfl, _⟩ := h
    rfl
  · obtain ⟨e, sg, rw, g, x, rules, hole, a, rfl, hT, hR, ok, hho, hcov, ret⟩ := h
    have hu := huOf hr
    refine ⟨_, (pss_cons (ps_set (i := 4) sc_first_term.nd rfl (Or.inl rfl) (pe_lst (pa_cons (pe_tup (pa_cons (pe_tup (pa_cons (pe_gi T.NONTERMINAL) (pa_cons (pv 3) (pa_cons (pv 3) pa_nil)))) (pa_cons pe_int (pa_cons (pe_callB call_len_seq (by rfl) T.len (by decide +kernel) (pa_cons (pv 1) pa_nil)) pa_nil)))) pa_nil)))
    (pss_cons (ps_set (i := 5) sc_first_term.nd rfl (Or.inl rfl) (pe_lst pa_nil))
    (pss_cons (ps_while PassesOwn.never (PW.pt (pw_and (pt_cmpR (op_neNil (Nat.lt_of_succ_lt hu)) (pv 4) (pe_lst pa_nil) (nomark _)) (pw_and1 (pt_cmpR op_le (pe_callB call_len_seq (by rfl) T.len (by decide +kernel) (pa_cons (pv 5) pa_nil)) (pe_gi T.MOST_TERM) (nomark _)))))
    (pss_cons (ps_asg (pe_bm0 PySem.F.plainAttrs_list PySem.F.slot_list_pop PySem.F.type_list_pop mt_pop (pv 4)) (pg_tup rfl (pgs_cons (pg_name (i := 6) sc_first_term.nd rfl (Or.inl rfl)) (pgs_cons (pg_name (i := 7) sc_first_term.nd rfl (Or.inl rfl)) (pgs_cons (pg_name (i := 8) sc_first_term.nd rfl (Or.inl rfl)) pgs_nil)))))
    (pss_one (ps_if (pt_cmpR op_ne (pe_ix ix_tup (pv 6) pe_int (fun _ _ => rfl)) (pe_gi T.NONTERMINAL) (nomark _))
    (pss_one (ps_expr (pe_bm PySem.F.plainAttrs_list PySem.F.slot_list_append PySem.F.type_list_append mt_append (pv 5) (pa_cons (pe_ix ix_list (pv 1) (pv 7) (fun _ _ => rfl)) pa_nil))))
    (pss_cons (ps_asg (pe_fc F_first_root (hr.mono (by decide)) pass0 (pa_cons (pv 0) (pa_cons (pv 1) (pa_cons (pv 2) (pa_cons (pe_tup (pa_cons (pe_ix ix_tup (pv 6) pe_int (fun _ _ => rfl)) (pa_cons (pv 7) (pa_cons (pv 8) pa_nil)))) pa_nil))))) (pg_tup rfl (pgs_cons (pg_name (i := 9) sc_first_term.nd rfl (Or.inl rfl)) (pgs_cons (pg_name (i := 10) sc_first_term.nd rfl (Or.inl rfl)) pgs_nil))))
    (pss_cons (ps_set (i := 11) sc_first_term.nd rfl (Or.inl rfl) (pe_ix ix_tup (pe_ix ix_list (pv 2) (pv 9) (fun _ _ => rfl)) pe_int (fun _ _ => rfl)))
    (pss_one (ps_if (pt_cmpR op_ne (pv 11) (pe_gi T.NO_HOLE) (nomark _))
    (pss_one (ps_expr (pe_bm PySem.F.plainAttrs_list PySem.F.slot_list_append PySem.F.type_list_append mt_append (pv 5) (pa_cons (pe_op op_add (pe_gi T.FIRST_HOLE) (pv 11)) pa_nil))))
    (pss_cons (ps_expr (pe_bm PySem.F.plainAttrs_list PySem.F.slot_list_append PySem.F.type_list_append mt_append (pv 5) (pa_cons (pv 9) pa_nil)))
    (pss_one (ps_expr (pe_bm PySem.F.plainAttrs_list PySem.F.slot_list_extend PySem.F.type_list_extend mt_extend (pv 4) (pa_cons (pe_revL (pv 10)) pa_nil)))))))))))))
    (pss_one (ps_ret (pv 5)))))), ?_⟩
    have hn24 := hT.n
    have gd : TR.Good g x (Vaglrc.spansOf g x) := TR.spans_good
    obtain ⟨xl, rfl, hxl⟩ := id hT.s
    obtain ⟨rl, rvs, rfl, hrl, hrp⟩ := id hR
    -- waiting = [((NONTERMINAL, nonterminal, nonterminal), 0, len(signs))]
    refine ⟨_, rfl, _, rfl, three_line, fun sa hsa => ?_⟩
    refine ⟨_, rfl, xl, _, rfl, .inl (SqL.of (Ex.new hsa _ _ hxl)), ⟨three_line, fun ta hta => ?_⟩⟩
    rw [List.length_map]
    refine ⟨one_line, fun wl hwl => ⟨nil_line, fun fp hfp => ?_⟩⟩
    have e1 : Ex H (upd (upd H sa (.tup [.int 0, vN a, vN a])) ta (.tup [.ref sa, .int 0, .int (x.length : Nat)])) := (Ex.new hsa).mut ((Ex.new hsa).back hta)
    have hwlH : H wl = none := e1.back hwl
    have e2 := e1.mut (o := .lst [.ref ta]) hwlH
    have hfpH : H fp = none := e2.back hfp
    have e3 := e2.mut (o := .lst []) hfpH
    have hfw : fp ≠ wl := fun q => by rw [q, upd_same] at hfp; cases hfp
    have hst : sa ≠ ta := fun q => by rw [← q, upd_same] at hta; cases hta
    have hps : ∀ p ∈ [wl, fp], H p = none := fun p hp => by
      rcases List.mem_cons.mp hp with rfl | hp
      · exact hwlH
      · rw [List.mem_singleton.mp hp]; exact hfpH
    have mw : wl ∈ [wl, fp] := by simp
    have mf : fp ∈ [wl, fp] := by simp
    have ntOf : ∀ {H' : Hp} {l1 l2 : List V}, H' wl = some (.lst l1) → H' fp = some (.lst l2) → Nt H' [wl, fp] := fun h1 h2 p hp => by
      rcases List.mem_cons.mp hp with rfl | hp
      · exact ⟨_, h1, fun _ q => by cases q⟩
      · rw [List.mem_singleton.mp hp]; exact ⟨_, h2, fun _ q => by cases q⟩
    have w3 : upd (upd (upd (upd H sa (.tup [.int 0, vN a, vN a])) ta (.tup [.ref sa, .int 0, .int (x.length : Nat)])) wl (.lst [.ref ta])) fp (.lst []) wl = some (.lst [.ref ta]) := by rw [upd_ne (Ne.symm hfw)]; exact upd_same
    have p3 : PartV (upd (upd (upd (upd H sa (.tup [.int 0, vN a, vN a])) ta (.tup [.ref sa, .int 0, .int (x.length : Nat)])) wl (.lst [.ref ta])) fp (.lst [])) (.ref ta) (.non a, 0, x.length) := by
      refine PartV.mono (Ex.new hfp) (PartV.mono (Ex.new hwl) ⟨ta, sa, rfl, upd_same, ?_⟩)
      rw [upd_ne hst]; exact upd_same
    generalize hH3 : upd (upd (upd (upd H sa (.tup [.int 0, vN a, vN a])) ta (.tup [.ref sa, .int 0, .int (x.length : Nat)])) wl (.lst [.ref ta])) fp (.lst []) = H3 at e3 w3 p3
    have f3 : H3 fp = some (.lst []) := by rw [← hH3]; exact upd_same
    refine ⟨fun μ σ H' => ∃ (st : List Part) (fd : List Nat) (wvs : List V) (v6 v7 v8 v9 v10 v11 : Option V), σ = [some e, some (.ref xl), some (.ref rl), some (vN a), some (.ref wl), some (.ref fp), v6, v7, v8, v9, v10, v11] ∧ Ex H (dels H' [wl, fp]) ∧
      H' wl = some (.lst wvs) ∧ Paired (PartV (dels H' [wl, fp])) wvs st.reverse ∧ H' fp = some (.lst (fd.map vN)) ∧ emit x (Vaglrc.spansOf g x) g.rules hole 401 [(.non a, 0, x.length)] = fd ++ emit x (Vaglrc.spansOf g x) g.rules hole (401 - fd.length) st ∧
      fd.length ≤ 401 ∧ (∀ w ∈ st, w.2.2 ∈ Vaglrc.symEnds x (Vaglrc.spansOf g x) w.1 w.2.1) ∧ st.length ≤ 1 + 8 * fd.length ∧ μ = 401 - fd.length, ⟨_, [(.non a, 0, x.length)], [], [.ref ta], none, none, none, none, none, none, rfl, ex_dels e3 hps, w3, .cons (PartV.dels p3 (ntOf w3 f3)) .nil, f3, rfl, by simp, ?_, by simp, rfl⟩, ?_⟩
    · intro w hw
      rw [List.mem_singleton.mp hw]; exact hcov
    rintro μ σ H4 ⟨st, fd, wvs, v6, v7, v8, v9, v10, v11, rfl, e4, hw4, hwp, hf4, htot, hfl, hval, hstl, rfl⟩
    refine ⟨_, rfl, nil_line, fun z hz => ⟨wl, z, wvs, rfl, rfl, Ex.new hz _ _ hw4, upd_same, _, rfl, ?_⟩⟩
    have e5 : Ex H4 (upd H4 z (.lst [])) := Ex.new hz
    have done : emit x (Vaglrc.spansOf g x) g.rules hole (401 - fd.length) st = [] → Q (.ref fp) (upd H4 z (.lst [])) := fun h0 => by
      refine ret _ fp ((e4.tr dels_ex).tr e5) hfpH ?_
      rw [htot, h0, List.append_nil]
      exact e5 _ _ hf4
    cases st with
    | nil =>
      cases hwp
      refine iteF ?_
      refine iteF ?_
      exact ⟨_, rfl, done (by cases 401 - fd.length <;> rfl)⟩
    | cons w st =>
      rw [List.reverse_cons] at hwp
      obtain ⟨vs0, y, rfl, hp0, hyw⟩ := Paired.last hwp
      have hne : (!(vs0 ++ [y]).isEmpty) = true := by
        cases vs0 <;> rfl
      rw [hne]
      refine iteT ?_
      refine ⟨_, rfl, fp, _, rfl, .inl (SqL.of (e5 _ _ hf4)), _, _, rfl, rfl, _, rfl, ?_⟩
      rw [List.length_map]
      show if decide (((fd.length : Nat) : Int) ≤ (400 : Int)) = true then _ else _
      by_cases hlt : fd.length ≤ 400
      case neg =>
        rw [decide_eq_false (by omega)]
        refine iteF ?_
        refine ⟨_, rfl, done ?_⟩
        rw [show 401 - fd.length = 0 by omega]; rfl
      rw [decide_eq_true (by omega)]
      refine iteT ?_
      obtain ⟨kf, hkf⟩ : ∃ kf, 401 - fd.length = kf + 1 := ⟨400 - fd.length, by omega⟩
      refine ⟨fun σ' H' => ∃ (st' : List Part) (n : Nat) (wvs : List V) (v6 v7 v8 v9 v10 v11 : Option V), σ' = [some e, some (.ref xl), some (.ref rl), some (vN a), some (.ref wl), some (.ref fp), v6, v7, v8, v9, v10, v11] ∧ Ex H (dels H' [wl, fp]) ∧
        H' wl = some (.lst wvs) ∧ Paired (PartV (dels H' [wl, fp])) wvs st'.reverse ∧ H' fp = some (.lst ((fd ++ [n]).map vN)) ∧ emit x (Vaglrc.spansOf g x) g.rules hole (kf + 1) (w :: st) = n :: emit x (Vaglrc.spansOf g x) g.rules hole kf st' ∧
        (∀ w ∈ st', w.2.2 ∈ Vaglrc.symEnds x (Vaglrc.spansOf g x) w.1 w.2.1) ∧ st'.length ≤ st.length + 8, ?_, ?_⟩
      · rintro σ' H' ⟨st', n, wvs', v6', v7', v8', v9', v10', v11', q1, q2, q3, q4, q5, q6, q7, q8⟩
        refine ⟨_, ?_, st', fd ++ [n], wvs', v6', v7', v8', v9', v10', v11', q1, q2, q3, q4, q5, ?_, ?_, q7, ?_, rfl⟩
        · rw [List.length_append, List.length_singleton]; omega
        · rw [htot, hkf, q6, List.length_append, List.length_singleton, show 401 - (fd.length + 1) = kf by omega]; simp
        · rw [List.length_append, List.length_singleton]; omega
        · rw [List.length_append, List.length_singleton]
          rw [List.length_cons] at hstl
          omega
      -- symbol, begin, end = waiting.pop()
      refine ⟨_, rfl, .inl ⟨rfl, _, SqL.of (e5 _ _ hw4)⟩, wl, vs0 ++ [y], y, rfl, rfl, e5 _ _ hw4, by simp, ?_⟩
      rw [List.dropLast_concat]
      have d6 : dels (upd (upd H4 z (.lst [])) wl (.lst vs0)) [wl, fp] = dels (upd H4 z (.lst [])) [wl, fp] := dels_upd mw
      have e46 : Ex (dels H4 [wl, fp]) (dels (upd (upd H4 z (.lst [])) wl (.lst vs0)) [wl, fp]) := by rw [d6]; exact dels_mono e5
      have hf6 : (upd (upd H4 z (.lst [])) wl (.lst vs0)) fp = some (.lst (fd.map vN)) := by rw [upd_ne hfw]; exact e5 _ _ hf4
      have hw6 : (upd (upd H4 z (.lst [])) wl (.lst vs0)) wl = some (.lst vs0) := upd_same
      have hp6 := Paired.mono2 hp0 fun v m q => PartV.mono e46 q
      have hy6 := hyw.mono e46
      have e6 := e4.tr e46
      generalize upd (upd H4 z (.lst [])) wl (.lst vs0) = H6 at hf6 hw6 hp6 hy6 e6
      clear d6 e46
      obtain ⟨ya, ysa, rfl, hya, hysa⟩ := hy6
      have hya' := dels_ex _ _ hya
      have hysa' := dels_ex _ _ hysa
      have hvalw := hval w List.mem_cons_self
      have hvals : ∀ w ∈ st, w.2.2 ∈ Vaglrc.symEnds x (Vaglrc.spansOf g x) w.1 w.2.1 := fun w hw => hval w (List.mem_cons_of_mem _ hw)
      have hvl : vs0.length = st.length := by have := Paired.len hp6; rw [List.length_reverse] at this; exact this
      rw [List.length_cons] at hstl
      refine ⟨ya, _, rfl, SqT.of hya', rfl, _, _, rfl, _, _, rfl, _, _, rfl, rfl, ?_⟩
      refine ⟨_, rfl, ysa, _, _, _, rfl, rfl, SqT.of hysa', atI_nat (j := 0) rfl, rfl, _, rfl, ?_⟩
      obtain ⟨sm, i, j⟩ := w
      have e06 : Ex H H6 := e6.tr dels_ex
      -- what one more number brings
      cases sm with
      | range lo hi =>
        rw [show (!decide (V.int (symT (.range lo hi)).1 = V.int 0)) = true by simp [symT]]
        refine iteT ?_
        obtain ⟨b, hb, _, _, _⟩ := TR.symEnds_range hvalw
        refine ⟨_, rfl, .inl ⟨rfl, _, SqL.of hf6⟩, _, rfl, _, rfl, xl, _, _, _, rfl, rfl, SqL.of (e06 _ _ hxl), atI_nat (map_vN_get hb), fp, _, _, rfl, rfl, hf6, small_lt (by rw [List.length_map]; omega), ?_⟩
        refine ⟨st, b, vs0, _, _, _, _, _, _, rfl, by rw [dels_upd mf]; exact e6, by rw [upd_ne (Ne.symm hfw)]; exact hw6, by rw [dels_upd mf]; exact hp6, by rw [upd_same, List.map_append]; rfl, ?_, hvals, by omega⟩
        show x.getD i 0 :: _ = _
        rw [List.getD_eq_getElem?_getD, hb]; rfl
      | non b =>
        rw [show (!decide (V.int (symT (.non b)).1 = V.int 0)) = false by simp [symT]]
        refine iteF ?_
        have hj : j ∈ Vaglrc.ends (Vaglrc.spansOf g x) b i := hvalw
        have hlim := TR.spans_good.lim hj
        obtain ⟨_, _, hexr⟩ := (TR.mem_ends_path ok.wf).mp hj
        refine ⟨_, rfl, _, rfl, _, rfl, _, rfl, ysa, _, _, _, rfl, rfl, SqT.of hysa', atI_nat (j := 1) rfl, _, rfl, _, rfl, three_line, fun wt hwt => ?_⟩
        have e67 : Ex H6 (upd H6 wt (.tup [vN b, vN i, vN j])) := Ex.new hwt
        refine ⟨e, .ref xl, .ref rl, .ref wt, g, x, rules, (b, i, j), rfl, hT.mono (e06.tr e67), hR.mono (e06.tr e67), ok, ⟨wt, rfl, upd_same⟩, hlim.2.2.2, hexr, ?_⟩
        rintro H8 p q m r e8 hp hpv hq ⟨q', qvs, hqe, hqv, hqp⟩ hgm hlh hpath hfr
        cases hqe
        have e68 := e67.tr e8
        have e08 := e06.tr e68
        have hw8 := e68 _ _ hw6
        have hf8 := e68 _ _ hf6
        have hrm : ∃ rr, rules[m]? = some rr ∧ rr.1 = r := by
          rw [← ok.map, List.getElem?_map] at hgm
          exact Option.map_eq_some_iff.mp hgm
        obtain ⟨rr, hrr, rfl⟩ := hrm
        obtain ⟨ra, hra1, rad, sv, rfl, hra, hsvv⟩ := Paired.at hrp hrr
        have nt8 := ntOf hw8 hf8
        refine ⟨p, _, rfl, SqT.of hpv, rfl, _, _, rfl, _, _, rfl, rfl, ?_⟩
        refine ⟨_, rfl, _, rfl, rl, _, _, _, rfl, rfl, SqL.of (e08 _ _ hrl), atI_nat hra1, rad, _, _, _, rfl, rfl, SqT.of (e08 _ _ hra), atI_nat (j := 2) rfl, ?_⟩
        refine ⟨_, rfl, rfl, _, rfl, ?_⟩
        have hem : emit x (Vaglrc.spansOf g x) g.rules hole (kf + 1) ((.non b, i, j) :: st) = match hole m with
            | some h => (1000 + h) :: emit x (Vaglrc.spansOf g x) g.rules hole kf st
            | none => m :: emit x (Vaglrc.spansOf g x) g.rules hole kf (parts x (Vaglrc.spansOf g x) j rr.1.rhs i ++ st) := by
          show (match firstRoot x (Vaglrc.spansOf g x) b i j 0 g.rules with
            | none => []
            | some (r, ps) => match hole r with
              | some h => (1000 + h) :: emit x (Vaglrc.spansOf g x) g.rules hole kf st
              | none => r :: emit x (Vaglrc.spansOf g x) g.rules hole kf (ps ++ st)) = _
          rw [show firstRoot x (Vaglrc.spansOf g x) b i j 0 g.rules = _ from hfr]
        rcases hho m rr hrr with ⟨h1, h2⟩ | ⟨hn, h1, h2⟩
        · rw [h1, show (!decide (V.int (-1) = V.int (-1))) = false by simp]
          refine iteF ?_
          rw [h2] at hem
          refine ⟨_, rfl, .inl ⟨rfl, _, SqL.of hf8⟩, _, rfl, fp, _, _, rfl, rfl, hf8, small_lt (by rw [List.length_map]; omega), ?_⟩
          have hw9 : (upd H8 fp (.lst (fd.map vN ++ [vN m]))) wl = some (.lst vs0) := by rw [upd_ne (Ne.symm hfw)]; exact hw8
          have hqf : q ≠ fp := fun q2 => by
            have h1 := e67 _ _ hf6
            rw [← q2] at h1
            exact absurd (hq.symm.trans h1) (by simp)
          have hf9 : (upd H8 fp (.lst (fd.map vN ++ [vN m]))) fp = some (.lst (fd.map vN ++ [vN m])) := upd_same
          have hq9 : (upd H8 fp (.lst (fd.map vN ++ [vN m]))) q = some (.lst qvs) := by rw [upd_ne hqf]; exact hqv
          have d9 : dels (upd H8 fp (.lst (fd.map vN ++ [vN m]))) [wl, fp] = dels H8 [wl, fp] := dels_upd mf
          generalize upd H8 fp (.lst (fd.map vN ++ [vN m])) = H9 at hw9 hf9 hq9 d9
          obtain ⟨pm, _, pv⟩ := TR.parts_spec gd hpath
          have hpl : (parts x (Vaglrc.spansOf g x) j rr.1.rhs i).length ≤ 8 := by
            have := congrArg List.length pm
            rw [List.length_map] at this
            have h8 := ok.short rr (List.mem_of_getElem? hrr)
            exact this ▸ h8
          have hql := Paired.len hqp
          have hql2 : qvs.length ≤ 8 := by rw [hql]; exact hpl
          refine ⟨_, rfl, .inl ⟨rfl, _, SqL.of hw9⟩, _, rfl, q, qvs, rfl, SqL.of hq9, fun rp hrp => ?_⟩
          have hrf : rp ≠ fp := fun q2 => by rw [q2, hf9] at hrp; cases hrp
          have e10 : Ex H9 (upd H9 rp (.lst qvs.reverse)) := Ex.new hrp
          refine ⟨wl, rp, vs0, qvs.reverse, rfl, rfl, e10 _ _ hw9, upd_same, small (by rw [List.length_reverse]; omega), ?_⟩
          have e11 : Ex (dels H8 [wl, fp]) (dels (upd (upd H9 rp (.lst qvs.reverse)) wl (.lst (vs0 ++ qvs.reverse))) [wl, fp]) := by
            rw [dels_upd mw, ← d9]; exact dels_mono e10
          refine ⟨parts x (Vaglrc.spansOf g x) j rr.1.rhs i ++ st, m, vs0 ++ qvs.reverse, _, _, _, _, _, _, rfl, (e6.tr (dels_mono e68)).tr e11, upd_same, ?_, ?_, hem, fun w hw => ?_, by rw [List.length_append]; omega⟩
          · rw [List.reverse_append]
            exact Paired.app (Paired.mono2 hp6 fun v m q => PartV.mono ((dels_mono e68).tr e11) q) (Paired.mono2 (Paired.rev hqp) fun v m q => PartV.mono e11 (PartV.dels q nt8))
          · rw [upd_ne hfw, upd_ne (Ne.symm hrf), hf9, List.map_append]; rfl
          · rcases List.mem_append.mp hw with h | h
            · exact (pv w h).1
            · exact hvals w h
        · rw [h1, show (!decide (V.int (hn : Int) = V.int (-1))) = true by simp]
          refine iteT ?_
          rw [h2] at hem
          refine ⟨_, rfl, .inl ⟨rfl, _, SqL.of hf8⟩, _, rfl, _, _, rfl, rfl, fp, _, _, rfl, rfl, hf8, small_lt (by rw [List.length_map]; omega), ?_⟩
          refine ⟨st, 1000 + hn, vs0, _, _, _, _, _, _, rfl, by rw [dels_upd mf]; exact e6.tr (dels_mono e68), by rw [upd_ne (Ne.symm hfw)]; exact hw8, by rw [dels_upd mf]; exact Paired.mono2 hp6 fun v m q => PartV.mono (dels_mono e68) q, ?_, hem, hvals, by omega⟩
          rw [upd_same, List.map_append]; rfl
end
end TW
set_option Elab.async false
set_option linter.all false
set_option maxRecDepth 100000
set_option maxHeartbeats 4000000
namespace TW
open PySem PySem.Spec PyProof.Rows L2
open Vaglrc (Sym Rule Grammar Node)
open TR (symF PathF tbl Up WfG comeTo Path parts firstRoot emit Endless)
/-- a refusal goes out: Refused at C, its number n -/
def Rz (E : XK) (C : Addr) (H : Hp) (n : Int) : Prop := ∀ H' d, Ex H H' → H' d = some (.xd [(("number" : Str), .int n)]) → E (.ref C) (some d) H'
theorem Rz.mono {E : XK} {C : Addr} {H H' : Hp} {n : Int} (e : Ex H H') (h : Rz E C H n) : Rz E C H' n := fun H2 d e2 => h H2 d (e.tr e2)
theorem Rz.go {E : XK} {C : Addr} {H : Hp} {n : Int} (h : Rz E C H n) (d : Addr) (hd : H d = none) : E (.ref C) (some d) (upd H d (.xd [(("number" : Str), .int n)])) := h _ d (Ex.new hd) upd_same
section
variable {P : Program} {w : World} {K : PySem.W.Frag} {mg : Str → Option Value} {base : Heap} {C fI : Addr}
def sp_said (C : Addr) : Sp := fun vs H Q E => ∃ (rw sg : V) (g : Grammar) (x : List Nat) (rules : List (Rule × Int)) (hole : Nat → Option Nat) (a : Nat), vs = [vN g.nons, rw, sg, vN a] ∧ RulesV H rw rules ∧ NatsV H sg x ∧ RulesOk g rules ∧ HoleOk rules hole ∧ x.length ≤ 24 ∧ g.nons ≤ 20 ∧ a < g.nons ∧
  (x.length ∉ Vaglrc.ends (Vaglrc.spansOf g x) a 0 → Rz E C H (-7)) ∧
  (x.length ∈ Vaglrc.ends (Vaglrc.spansOf g x) a 0 → Endless g x (Vaglrc.spansOf g x) (a, 0, x.length) → Rz E C H (-10)) ∧
  (x.length ∈ Vaglrc.ends (Vaglrc.spansOf g x) a 0 → ¬ Endless g x (Vaglrc.spansOf g x) (a, 0, x.length) → 400 < (emit x (Vaglrc.spansOf g x) g.rules hole 401 [(.non a, 0, x.length)]).length → Rz E C H (-12)) ∧
  (x.length ∈ Vaglrc.ends (Vaglrc.spansOf g x) a 0 → ¬ Endless g x (Vaglrc.spansOf g x) (a, 0, x.length) → ¬ 400 < (emit x (Vaglrc.spansOf g x) g.rules hole 401 [(.non a, 0, x.length)]).length → ∀ H' l, Ex H H' → H l = none →
    H' l = some (.lst ((emit x (Vaglrc.spansOf g x) g.rules hole 401 [(.non a, 0, x.length)]).map vN)) → Q (.ref l) H')
abbrev s_said : Stmt := topS 31
/-- 0 many, 1 rules, 2 signs, 3 nonterminal, 4 ends, 5 term -/
theorem sc_said : FnScope ["many", "rules", "signs", "nonterminal", "ends", "term"] ["many", "rules", "signs", "nonterminal"] (defScope s_said) := ⟨rfl, rfl, rfl, by decide +kernel, rfl, by decide +kernel, by decide +kernel⟩
theorem ok_said {f : Addr} {fd : FuncData} (F : Fun K "said" "said" s_said f fd) (T : Glob mg) (Rf : PySem.RfX.RfTxt K mg C fI) (F_ends_of : FnC P w K mg base CX0 5 "ends_of" ["many", "rules", "signs"] sp_ends_of)
    (F_reached : FnC P w K mg base CX0 5 "reached" ["ends", "signs", "rules", "nonterminal"] sp_reached) (F_has_ring : FnC P w K mg base CX0 1 "has_ring" ["same", "many"] sp_has_ring) (F_first_term : FnC P w K mg base CX0 5 "first_term" ["ends", "signs", "rules", "nonterminal"] sp_first_term) :
    FnOk P w K mg base (L2.CX P w) 6 f fd ["many", "rules", "signs", "nonterminal"] (sp_said C) := by
  refine F.okX sc_said (fun vs H Q E h => ?_) (fun cdv A outer s H vs Q E hr h => ?_)
  · obtain ⟨_, _, _, _, _, _, _, rfl, _⟩ := h
    rfl
  · obtain ⟨rw, sg, g, x, rules, hole, a, rfl, hR, ⟨xl, rfl, hxl⟩, ok, hho, hn24, hm20, ha, k7, k10, k12, ret⟩ := h
    refine ⟨_, (pss_cons (ps_set (i := 4) sc_said.nd rfl (Or.inl rfl) (pe_fc F_ends_of (hr.mono (by decide)) pass0 (pa_cons (pv 0) (pa_cons (pv 1) (pa_cons (pv 2) pa_nil)))))
    (pss_cons (ps_if (pt_cmpR op_notIn_seq (pe_callB call_len_seq (by rfl) T.len (by decide +kernel) (pa_cons (pv 2) pa_nil)) (pe_ix ix_list (pe_ix ix_list (pv 4) pe_int (fun _ _ => rfl)) (pv 3) (fun _ _ => rfl)) (by rfl))
    (pss_one (ps_raiseRf (k := 1) rfl Rf (hr.mono (by decide)) (takes_of rfl rfl rfl rfl) (by exact (pa_cons (pe_un un_neg pe_int) pa_nil))))
    pss_nil)
    (pss_cons (ps_if (pt_val (pe_fc F_has_ring (hr.mono (by decide)) pass0 (pa_cons (pe_fc F_reached (hr.mono (by decide)) pass0 (pa_cons (pv 4) (pa_cons (pv 2) (pa_cons (pv 1) (pa_cons (pv 3) pa_nil))))) (pa_cons (pv 0) pa_nil))))
    (pss_one (ps_raiseRf (k := 1) rfl Rf (hr.mono (by decide)) (takes_of rfl rfl rfl rfl) (by exact (pa_cons (pe_un un_neg pe_int) pa_nil))))
    pss_nil)
    (pss_cons (ps_set (i := 5) sc_said.nd rfl (Or.inl rfl) (pe_fc F_first_term (hr.mono (by decide)) pass0 (pa_cons (pv 4) (pa_cons (pv 2) (pa_cons (pv 1) (pa_cons (pv 3) pa_nil))))))
    (pss_cons (ps_if (pt_cmpR op_gt (pe_callB call_len_seq (by rfl) T.len (by decide +kernel) (pa_cons (pv 5) pa_nil)) (pe_gi T.MOST_TERM) (nomark _))
    (pss_one (ps_raiseRf (k := 1) rfl Rf (hr.mono (by decide)) (takes_of rfl rfl rfl rfl) (by exact (pa_cons (pe_un un_neg pe_int) pa_nil))))
    pss_nil)
    (pss_one (ps_ret (pv 5)))))))), ?_⟩
    have gd : TR.Good g x (Vaglrc.spansOf g x) := TR.spans_good
    refine ⟨_, rfl, _, rfl, _, rfl, rw, .ref xl, g, x, rules, rfl, hR, ⟨xl, rfl, hxl⟩, ok, hn24, hm20, ?_⟩
    rintro ev H1 e1 hev
    have hT : TabV H1 ev (.ref xl) g x := ⟨hev, ⟨xl, rfl, e1 _ _ hxl⟩, hn24, hm20⟩
    obtain ⟨el, rows, rfl, he, hrows⟩ := hev
    obtain ⟨rv, hr1, rl, ls, rfl, hrl, hpr⟩ := Paired.at hrows (range_get (show 0 < x.length + 1 by omega))
    obtain ⟨lv, hl1, ll, rfl, hll⟩ := Paired.at hpr (show ((List.range g.nons).map (endsT g x 0))[a]? = some (endsT g x 0 a) by rw [List.getElem?_map, range_get ha]; rfl)
    refine ⟨_, rfl, xl, _, rfl, .inl (SqL.of (e1 _ _ hxl)), _, rfl, el, _, _, _, rfl, rfl, SqL.of he, atI_nat (j := 0) hr1, _, rfl, rl, _, _, _, rfl, rfl, SqL.of hrl, atI_nat hl1, ll, _, rfl, .inl (SqL.of hll), rfl, flat_vN _, _, rfl, ?_⟩
    rw [List.length_map]
    show if (!inV (vN x.length) _) = true then _ else _
    rw [inV_vN]
    by_cases hcov : x.length ∈ Vaglrc.ends (Vaglrc.spansOf g x) a 0
    case neg =>
      rw [decide_eq_false (show x.length ∉ endsT g x 0 a from hcov)]
      refine iteT ?_
      exact ⟨_, rfl, _, rfl, fun d hd => ((k7 hcov).mono e1).go d hd⟩
    rw [decide_eq_true (show x.length ∈ endsT g x 0 a from hcov)]
    refine iteF ?_
    -- has_ring(reached(..), many)
    refine ⟨_, rfl, _, rfl, _, rfl, _, rfl, .ref el, .ref xl, rw, g, x, rules, a, rfl, hT, hR.mono e1, ok, hcov, ?_⟩
    rintro H2 dp kvs keys same e2 hdp hsv hnd hkeys hsame hsl
    have hwh : ((a, 0, x.length) : Node) ∈ Vaglrc.nodesOf (Vaglrc.spansOf g x) := (TR.mem_nodesOf gd).mpr hcov
    have hkl : keys.length ≤ 12500 := by
      have h1 : g.nons * (x.length + 1) ≤ 20 * 25 := Nat.mul_le_mul hm20 (by omega)
      have hU : g.nons * (x.length + 1) * (x.length + 1) ≤ 12500 := Nat.mul_le_mul h1 (by omega : x.length + 1 ≤ 25)
      refine Nat.le_trans ?_ hU
      rw [← TR.length_univ]
      refine nodup_le hnd fun n hn => ?_
      have l := gd.lim ((TR.mem_nodesOf gd).mp (TR.star_node gd hwh ((hkeys n).mp hn)))
      obtain ⟨q1, q2, q3⟩ := n
      exact TR.mem_univ.mpr ⟨l.1, l.2.1, l.2.2.2⟩
    refine ⟨_, rfl, dp, kvs, keys, same, g.nons, rfl, hdp, hsv, hnd, hkl, hsl, by omega, ?_⟩
    intro H3 e3
    have hring := TR.ring_iff gd hwh hkeys hsame
    have e03 := (e1.tr e2).tr e3
    refine ⟨_, rfl, ?_⟩
    by_cases hend : Endless g x (Vaglrc.spansOf g x) (a, 0, x.length)
    · rw [decide_eq_true (hring.mpr hend)]
      refine iteT ?_
      exact ⟨_, rfl, _, rfl, fun d hd => ((k10 hcov hend).mono e03).go d hd⟩
    · rw [decide_eq_false fun h => hend (hring.mp h)]
      refine iteF ?_
      refine ⟨_, rfl, _, rfl, _, rfl, _, rfl, .ref el, .ref xl, rw, g, x, rules, hole, a, rfl, hT.mono (e2.tr e3), hR.mono e03, ok, hho, hcov, ?_⟩
      rintro H4 l e4 hl hlv
      refine ⟨_, rfl, l, _, rfl, .inl (SqL.of hlv), _, _, rfl, rfl, _, rfl, ?_⟩
      rw [List.length_map]
      show if decide ((400 : Int) < (((emit x (Vaglrc.spansOf g x) g.rules hole 401 [(.non a, 0, x.length)]).length : Nat) : Int)) = true then _ else _
      by_cases hlen : 400 < (emit x (Vaglrc.spansOf g x) g.rules hole 401 [(.non a, 0, x.length)]).length
      · rw [decide_eq_true (by omega)]
        refine iteT ?_
        exact ⟨_, rfl, _, rfl, fun d hd => ((k12 hcov hend hlen).mono (e03.tr e4)).go d hd⟩
      · rw [decide_eq_false (by omega)]
        refine iteF ?_
        exact ⟨_, rfl, ret hcov hend hlen H4 l (e03.tr e4) (e03.back hl) hlv⟩
end
end TW
set_option Elab.async false
set_option linter.all false
set_option maxRecDepth 100000
set_option maxHeartbeats 4000000
namespace TW
open PySem PySem.Spec PyProof.Rows L2
open Vaglrc (Sym Rule Grammar Node)
open TR (GOk POk holeRule holeNo)
/-! ### signs that are holes -/
theorem hole_div {c : Nat} (h : 256 ≤ c) : ((c : Int) - 256) / 32 = (((Vaglrj.holeOf c).1 : Nat) : Int) := by
  unfold Vaglrj.holeOf
  simp only
  rw [Int.natCast_ediv]
  congr 1
  omega
theorem hole_mod {c : Nat} (h : 256 ≤ c) : ((c : Int) - 256) % 32 = (((Vaglrj.holeOf c).2 : Nat) : Int) := by
  unfold Vaglrj.holeOf
  simp only
  rw [Int.natCast_emod]
  congr 1
  omega
section
variable {P : Program} {w : World} {K : PySem.W.Frag} {mg : Str → Option Value} {base : Heap} {C fI : Addr}
def sp_hole_number : Sp := fun vs H Q _ => ∃ c : Nat, vs = [vN c] ∧ 256 ≤ c ∧ Q (vN (Vaglrj.holeOf c).1) H
def sp_hole_nonterminal : Sp := fun vs H Q _ => ∃ c : Nat, vs = [vN c] ∧ 256 ≤ c ∧ Q (vN (Vaglrj.holeOf c).2) H
abbrev s_hole_number : Stmt := topS 37
/-- 0 sign -/
theorem sc_hole_number : FnScope ["sign"] ["sign"] (defScope s_hole_number) := ⟨rfl, rfl, rfl, by decide +kernel, rfl, by decide +kernel, by decide +kernel⟩
theorem ok_hole_number {f : Addr} {fd : FuncData} (F : Fun K "hole_number" "hole_number" s_hole_number f fd) (T : Glob mg) : FnOk P w K mg base CX0 1 f fd ["sign"] sp_hole_number := by
  refine F.ok sc_hole_number (fun vs H Q E h => ?_) (fun cdv A outer s H vs Q E hr h => ?_)
  · obtain ⟨_, rfl, _⟩ := h
    rfl
  · obtain ⟨c, rfl, hc, q⟩ := h
    refine ⟨_, (pss_one (ps_ret (pe_op op_fdiv (pe_op op_sub (pv 0) (pe_gi T.FIRST_SIGN)) (pe_gi T.HOLE_STEP)))), ?_⟩
    refine ⟨_, rfl, _, _, rfl, rfl, _, _, rfl, rfl, ⟨by decide, by decide⟩, ?_⟩
    show Q (.int (((c : Int) - 256) / 32)) H
    rw [hole_div hc]
    exact q
abbrev s_hole_nonterminal : Stmt := topS 38
/-- 0 sign -/
theorem sc_hole_nonterminal : FnScope ["sign"] ["sign"] (defScope s_hole_nonterminal) := ⟨rfl, rfl, rfl, by decide +kernel, rfl, by decide +kernel, by decide +kernel⟩
theorem ok_hole_nonterminal {f : Addr} {fd : FuncData} (F : Fun K "hole_nonterminal" "hole_nonterminal" s_hole_nonterminal f fd) (T : Glob mg) : FnOk P w K mg base CX0 1 f fd ["sign"] sp_hole_nonterminal := by
  refine F.ok sc_hole_nonterminal (fun vs H Q E h => ?_) (fun cdv A outer s H vs Q E hr h => ?_)
  · obtain ⟨_, rfl, _⟩ := h
    rfl
  · obtain ⟨c, rfl, hc, q⟩ := h
    refine ⟨_, (pss_one (ps_ret (pe_op op_mod (pe_op op_sub (pv 0) (pe_gi T.FIRST_SIGN)) (pe_gi T.HOLE_STEP)))), ?_⟩
    refine ⟨_, rfl, _, _, rfl, rfl, _, _, rfl, rfl, (by decide : (0 : Int) < 32), ?_⟩
    show Q (.int (((c : Int) - 256) % 32)) H
    rw [hole_mod hc]
    exact q
def sp_is_hole : Sp := fun vs H Q _ => ∃ (m c : Nat), vs = [vN m, vN c] ∧ Q (.bl (decide (256 ≤ c) && (decide ((Vaglrj.holeOf c).1 < 10) && decide ((Vaglrj.holeOf c).2 < m)))) H
abbrev s_is_hole : Stmt := topS 39
/-- 0 many, 1 sign -/
theorem sc_is_hole : FnScope ["many", "sign"] ["many", "sign"] (defScope s_is_hole) := ⟨rfl, rfl, rfl, by decide +kernel, rfl, by decide +kernel, by decide +kernel⟩
theorem ok_is_hole {f : Addr} {fd : FuncData} (F : Fun K "is_hole" "is_hole" s_is_hole f fd) (T : Glob mg) (F_hole_number : FnC P w K mg base CX0 1 "hole_number" ["sign"] sp_hole_number) (F_hole_nonterminal : FnC P w K mg base CX0 1 "hole_nonterminal" ["sign"] sp_hole_nonterminal) :
    FnOk P w K mg base CX0 2 f fd ["many", "sign"] sp_is_hole := by
  refine F.ok sc_is_hole (fun vs H Q E h => ?_) (fun cdv A outer s H vs Q E hr h => ?_)
  · obtain ⟨_, _, rfl, _⟩ := h
    rfl
  · obtain ⟨m, c, rfl, q⟩ := h
    refine ⟨_, (pss_one (ps_ret (pe_and (pe_cmpR op_ge (pv 1) (pe_gi T.FIRST_SIGN) (nomark _)) (pe_and (pe_cmpR op_le (pe_fc F_hole_number (hr.mono (by decide)) pass0 (pa_cons (pv 1) pa_nil)) (pe_gi T.MOST_HOLE) (nomark _)) (pe_one (pe_cmpR op_lt (pe_fc F_hole_nonterminal (hr.mono (by decide)) pass0 (pa_cons (pv 1) pa_nil)) (pv 0) (nomark _))))))), ?_⟩
    refine ⟨_, rfl, _, _, rfl, rfl, _, rfl, ?_⟩
    by_cases h1 : 256 ≤ c
    · rw [show (decide ((256 : Int) ≤ (c : Int))) = true from decide_eq_true (by omega)]
      refine iteT ?_
      rw [show decide (256 ≤ c) = true from decide_eq_true h1, Bool.true_and] at q
      refine ⟨_, rfl, c, rfl, h1, _, _, rfl, rfl, _, rfl, ?_⟩
      by_cases h2 : (Vaglrj.holeOf c).1 < 10
      · rw [show (decide ((((Vaglrj.holeOf c).1 : Nat) : Int) ≤ (9 : Int))) = true from decide_eq_true (by omega)]
        refine iteT ?_
        rw [show decide ((Vaglrj.holeOf c).1 < 10) = true from decide_eq_true h2, Bool.true_and] at q
        refine ⟨_, rfl, c, rfl, h1, _, rfl, _, _, rfl, rfl, ?_⟩
        show Q (.bl (decide ((((Vaglrj.holeOf c).2 : Nat) : Int) < (m : Int)))) H
        rw [int_lt]
        exact q
      · rw [show (decide ((((Vaglrj.holeOf c).1 : Nat) : Int) ≤ (9 : Int))) = false from decide_eq_false (by omega)]
        refine iteF ?_
        rw [show decide ((Vaglrj.holeOf c).1 < 10) = false from decide_eq_false h2, Bool.false_and] at q
        exact q
    · rw [show (decide ((256 : Int) ≤ (c : Int))) = false from decide_eq_false (by omega)]
      refine iteF ?_
      rw [show decide (256 ≤ c) = false from decide_eq_false h1, Bool.false_and] at q
      exact q
def sp_check_place (C : Addr) : Sp := fun vs H Q E => ∃ (m : Nat) (l : Addr) (ys : List V) (a : Int), vs = [vN m, .ref l, .int a] ∧ H l = some (.lst ys) ∧ (24 < ys.length → Rz E C H (-3)) ∧ (ys.length ≤ 24 → (a < 0 ∨ (m : Int) ≤ a) → Rz E C H (-4)) ∧ (ys.length ≤ 24 → 0 ≤ a → a < m → Q .non H)
abbrev s_check_place : Stmt := topS 40
/-- 0 many, 1 signs, 2 nonterminal -/
theorem sc_check_place : FnScope ["many", "signs", "nonterminal"] ["many", "signs", "nonterminal"] (defScope s_check_place) := ⟨rfl, rfl, rfl, by decide +kernel, rfl, by decide +kernel, by decide +kernel⟩
theorem ok_check_place {f : Addr} {fd : FuncData} (F : Fun K "check_place" "check_place" s_check_place f fd) (T : Glob mg) (Rf : PySem.RfX.RfTxt K mg C fI) : FnOk P w K mg base (L2.CX P w) 2 f fd ["many", "signs", "nonterminal"] (sp_check_place C) := by
  refine F.okX sc_check_place (fun vs H Q E h => ?_) (fun cdv A outer s H vs Q E hr h => ?_)
  · obtain ⟨_, _, _, _, rfl, _⟩ := h
    rfl
  · obtain ⟨m, l, ys, a, rfl, hl, k3, k4, q⟩ := h
    refine ⟨_, (pss_cons (ps_if (pt_cmpR op_gt (pe_callB call_len_seq (by rfl) T.len (by decide +kernel) (pa_cons (pv 1) pa_nil)) (pe_gi T.MOST_SIGNS) (nomark _))
    (pss_one (ps_raiseRf (k := 1) rfl Rf (hr.mono (by decide)) (takes_of rfl rfl rfl rfl) (by exact (pa_cons (pe_un un_neg pe_int) pa_nil))))
    pss_nil)
    (pss_one (ps_if (pt_not (pt_chain op_le op_lt pe_int (pv 2) (pv 0)))
    (pss_one (ps_raiseRf (k := 1) rfl Rf (hr.mono (by decide)) (takes_of rfl rfl rfl rfl) (by exact (pa_cons (pe_un un_neg pe_int) pa_nil))))
    pss_nil))), ?_⟩
    refine ⟨_, rfl, l, ys, rfl, .inl (SqL.of hl), _, _, rfl, rfl, _, rfl, ?_⟩
    show if decide ((24 : Int) < ((ys.length : Nat) : Int)) = true then _ else _
    by_cases h1 : 24 < ys.length
    · rw [decide_eq_true (by omega)]
      refine iteT ?_
      exact ⟨_, rfl, _, rfl, fun d hd => (k3 h1).go d hd⟩
    · rw [decide_eq_false (by omega)]
      refine iteF ?_
      refine ⟨_, rfl, _, _, rfl, rfl, _, rfl, ?_⟩
      show if decide ((0 : Int) ≤ a) = true then _ else _
      by_cases h2 : 0 ≤ a
      · rw [decide_eq_true h2]
        refine iteT ?_
        refine ⟨_, rfl, _, _, rfl, rfl, ?_⟩
        refine ⟨_, rfl, ?_⟩
        show if (!decide (a < (m : Int))) = true then _ else _
        by_cases h3 : a < m
        · rw [decide_eq_true h3]
          refine iteF ?_
          exact q (by omega) h2 h3
        · rw [decide_eq_false h3]
          refine iteT ?_
          exact ⟨_, rfl, _, rfl, fun d hd => (k4 (by omega) (.inr (by omega))).go d hd⟩
      · rw [decide_eq_false h2]
        refine iteF ?_
        refine ⟨_, rfl, ?_⟩
        refine iteT ?_
        exact ⟨_, rfl, _, rfl, fun d hd => (k4 (by omega) (.inl (by omega))).go d hd⟩
/-! ### holes_in, with_holes -/
theorem holeSigns_snoc {x : List Nat} {c : Nat} : Vaglrj.holeSigns (x ++ [c]) = if 256 ≤ c ∧ c ∉ Vaglrj.holeSigns x then Vaglrj.holeSigns x ++ [c] else Vaglrj.holeSigns x := by
  unfold Vaglrj.holeSigns
  rw [List.filter_append]
  by_cases h : 256 ≤ c
  · rw [show [c].filter (fun c => decide (256 ≤ c)) = [c] by rw [List.filter_cons, if_pos (decide_eq_true h)]; rfl]
    show (List.foldl _ _ _) = _
    rw [List.foldl_append]
    show (if Vaglrc.has c (Vaglrj.onceIn (x.filter fun c => decide (256 ≤ c))) = true then _ else _) = _
    by_cases h2 : c ∈ Vaglrj.onceIn (x.filter fun c => decide (256 ≤ c))
    · rw [if_pos (TR.has_iff.mpr h2), if_neg fun q => q.2 h2]; rfl
    · rw [if_neg (fun q => h2 (TR.has_iff.mp q)), if_pos ⟨h, h2⟩]; rfl
  · rw [show [c].filter (fun c => decide (256 ≤ c)) = [] by rw [List.filter_cons, if_neg (by simpa using h)]; rfl, List.append_nil, if_neg fun q => h q.1]
theorem holeSigns_len (x : List Nat) : (Vaglrj.holeSigns x).length ≤ x.length := by
  have h : (Vaglrj.holeSigns x).Nodup := TR.onceIn_nodup
  exact nodup_le h fun c hc => (TR.mem_holeSigns.mp hc).1
def sp_holes_in : Sp := fun vs H Q _ => ∃ (sg : V) (x : List Nat), vs = [sg] ∧ NatsV H sg x ∧ x.length ≤ 1000 ∧ ∀ H' l, Ex H H' → H l = none → H' l = some (.lst ((Vaglrj.holeSigns x).map vN)) → Q (.ref l) H'
abbrev s_holes_in : Stmt := topS 42
/-- 0 signs, 1 found, 2 sign -/
theorem sc_holes_in : FnScope ["signs", "found", "sign"] ["signs"] (defScope s_holes_in) := ⟨rfl, rfl, rfl, by decide +kernel, rfl, by decide +kernel, by decide +kernel⟩
theorem ok_holes_in {f : Addr} {fd : FuncData} (F : Fun K "holes_in" "holes_in" s_holes_in f fd) (T : Glob mg) : FnOk P w K mg base CX0 1 f fd ["signs"] sp_holes_in := by
  refine F.ok sc_holes_in (fun vs H Q E h => ?_) (fun cdv A outer s H vs Q E hr h => ?_)
  · obtain ⟨_, _, rfl, _⟩ := h
    rfl
  · obtain ⟨_, x, rfl, ⟨xl, rfl, hx⟩, hxn, ret⟩ := h
    refine ⟨_, (pss_cons (ps_set (i := 1) sc_holes_in.nd rfl (Or.inl rfl) (pe_lst pa_nil))
    (pss_cons (ps_for PassesOwn.never rfl (pi_list (pv 0)) (pg_name (i := 2) sc_holes_in.nd rfl (Or.inl rfl))
    (pss_one (ps_if (PW.pt (pw_and (pt_cmpR op_ge (pv 2) (pe_gi T.FIRST_SIGN) (nomark _)) (pw_and1 (pt_cmpR op_notIn_seq (pv 2) (pv 1) (by rfl)))))
    (pss_one (ps_expr (pe_bm PySem.F.plainAttrs_list PySem.F.slot_list_append PySem.F.type_list_append mt_append (pv 1) (pa_cons (pv 2) pa_nil))))
    pss_nil)))
    (pss_one (ps_ret (pv 1))))), ?_⟩
    refine ⟨nil_line, fun fo hfo => ?_⟩
    refine ⟨_, rfl, xl, rfl, ⟨_, SqL.of (Ex.new hfo _ _ hx)⟩, for_list (K := K) (a := xl) (xs := x.map vN) (fun i σ H' => ∃ v2 : Option V, σ = [some (.ref xl), some (.ref fo), v2] ∧ Ex H H' ∧ H' fo = some (.lst ((Vaglrj.holeSigns (x.take i)).map vN)))
      ⟨none, rfl, Ex.new hfo, upd_same⟩ (fun i σ H' _ ⟨_, _, e, _⟩ => SqL.of (e _ _ hx)) ?_ ?_⟩
    · rintro i v σ H1 hi ⟨v2, rfl, e1, hf1⟩
      obtain ⟨c, hc, rfl⟩ := get_map_vN hi
      have htk : x.take (i + 1) = x.take i ++ [c] := by rw [List.take_succ, hc]; rfl
      refine ⟨_, rfl, _, _, rfl, rfl, _, rfl, ?_⟩
      by_cases h1 : 256 ≤ c
      · rw [show (decide ((256 : Int) ≤ (c : Int))) = true from decide_eq_true (by omega)]
        refine iteT ?_
        refine ⟨_, rfl, _, rfl, fo, _, rfl, .inl (SqL.of hf1), rfl, flat_vN _, _, rfl, ?_⟩
        show if (!inV _ _) = true then _ else _
        rw [inV_vN]
        by_cases h2 : c ∈ Vaglrj.holeSigns (x.take i)
        · rw [decide_eq_true h2]
          refine iteF ?_
          exact ⟨_, rfl, e1, by rw [hf1, htk, holeSigns_snoc, if_neg fun q => q.2 h2]⟩
        · rw [decide_eq_false h2]
          refine iteT ?_
          refine ⟨_, rfl, .inl ⟨rfl, _, SqL.of hf1⟩, _, rfl, fo, _, _, rfl, rfl, hf1, small_lt ?_, ?_⟩
          · rw [List.length_map]
            have := holeSigns_len (x.take i)
            rw [List.length_take] at this
            omega
          · exact ⟨_, rfl, e1.mut hfo, by rw [upd_same, htk, holeSigns_snoc, if_pos ⟨h1, h2⟩, List.map_append]; rfl⟩
      · rw [show (decide ((256 : Int) ≤ (c : Int))) = false from decide_eq_false (by omega)]
        refine iteF ?_
        refine iteF ?_
        exact ⟨_, rfl, e1, by rw [hf1, htk, holeSigns_snoc, if_neg fun q => h1 q.1]⟩
    · rintro σ H1 ⟨v2, rfl, e1, hf1⟩
      rw [List.length_map, List.take_length] at hf1
      exact ⟨_, rfl, ret _ fo e1 hfo hf1⟩
end
end TW
set_option Elab.async false
set_option linter.all false
set_option maxRecDepth 100000
set_option maxHeartbeats 4000000
namespace TW
open PySem PySem.Spec PyProof.Rows L2
open Vaglrc (Sym Rule Grammar Node)
open TR (GOk POk holeRule holeNo hh tt firstTerm Endless)
/-- the rules of the grammar itself -/
def own (g : Grammar) : List (Rule × Int) := g.rules.map fun r => (r, -1)
/-- .. and those of the holes -/
def withH (g : Grammar) (x : List Nat) : List (Rule × Int) := own g ++ (Vaglrj.holeSigns x).map fun c => (holeRule c, ((Vaglrj.holeOf c).1 : Int))
theorem own_map (g : Grammar) : (own g).map (·.1) = g.rules := by
  unfold own
  rw [List.map_map]
  exact List.map_id' _
theorem withH_map (g : Grammar) (x : List Nat) : (withH g x).map (·.1) = (hh g x).rules := by
  unfold withH
  rw [List.map_append, own_map, List.map_map]
  show _ = (Vaglrj.withHoles g x).rules
  rw [TR.withHoles_rules]
  rfl
theorem withH_ok {g : Grammar} (ok : GOk g) {x : List Nat} (px : POk g x) (hx : x.length ≤ 24) : RulesOk (hh g x) (withH g x) where
  map := withH_map g x
  wf := TR.wf_withHoles ok px
  few := by
    have h1 := ok.many
    have h2 := holeSigns_len x
    unfold withH own
    rw [List.length_append, List.length_map, List.length_map]; omega
  short := fun r hr => by
    rcases List.mem_append.mp hr with h | h
    · obtain ⟨q, hq, rfl⟩ := List.mem_map.mp h
      exact ok.len q hq
    · obtain ⟨c, _, rfl⟩ := List.mem_map.mp h
      simp [holeRule]
theorem withH_hole (g : Grammar) (x : List Nat) : HoleOk (withH g x) (holeNo g x) := by
  intro m r h
  have hl : (own g).length = g.rules.length := by unfold own; rw [List.length_map]
  unfold withH at h
  unfold holeNo
  by_cases hm : m < g.rules.length
  · rw [List.getElem?_append_left (by omega)] at h
    unfold own at h
    rw [List.getElem?_map] at h
    obtain ⟨q, _, rfl⟩ := Option.map_eq_some_iff.mp h
    exact .inl ⟨rfl, if_pos hm⟩
  · rw [List.getElem?_append_right (by omega), List.getElem?_map, hl] at h
    obtain ⟨c, hc, rfl⟩ := Option.map_eq_some_iff.mp h
    exact .inr ⟨_, rfl, by rw [if_neg hm, hc]; rfl⟩
theorem withH_text {g : Grammar} {x : List Nat} (h : ∀ c ∈ x, c < 256) : withH g x = own g := by
  have : Vaglrj.holeSigns x = [] := by
    apply List.eq_nil_iff_forall_not_mem.mpr
    intro c hc
    have := TR.mem_holeSigns.mp hc
    have := h c this.1
    omega
  unfold withH
  rw [this]
  exact List.append_nil _
/-- what reading a text comes to -/
def SaidTo (E : XK) (C : Addr) (H : Hp) (Q : VK) : Vaglrj.Said → Prop
  | .uncovered => Rz E C H (-7)
  | .endless => Rz E C H (-10)
  | .great => Rz E C H (-12)
  | .term z => ∀ H' l, Ex H H' → H l = none → H' l = some (.lst (z.map vN)) → Q (.ref l) H'
theorem said_of {E : XK} {C : Addr} {H : Hp} {Q : VK} {g : Grammar} (ok : GOk g) {x : List Nat} (px : POk g x) {a : Nat} (s : SaidTo E C H Q (Vaglrj.saidBy g a x)) :
    (x.length ∉ Vaglrc.ends (Vaglrc.spansOf (hh g x) x) a 0 → Rz E C H (-7)) ∧
    (x.length ∈ Vaglrc.ends (Vaglrc.spansOf (hh g x) x) a 0 → Endless (hh g x) x (Vaglrc.spansOf (hh g x) x) (a, 0, x.length) → Rz E C H (-10)) ∧
    (x.length ∈ Vaglrc.ends (Vaglrc.spansOf (hh g x) x) a 0 → ¬ Endless (hh g x) x (Vaglrc.spansOf (hh g x) x) (a, 0, x.length) → 400 < (firstTerm g x a).length → Rz E C H (-12)) ∧
    (x.length ∈ Vaglrc.ends (Vaglrc.spansOf (hh g x) x) a 0 → ¬ Endless (hh g x) x (Vaglrc.spansOf (hh g x) x) (a, 0, x.length) → ¬ 400 < (firstTerm g x a).length → ∀ H' l, Ex H H' → H l = none → H' l = some (.lst ((firstTerm g x a).map vN)) → Q (.ref l) H') := by
  rcases TR.saidBy_cases g ok px a with ⟨h1, e⟩ | ⟨h1, h2, e⟩ | ⟨h1, h2, h3, e⟩ | ⟨h1, h2, h3, e, _⟩ <;> rw [e] at s
  · exact ⟨fun _ => s, fun h => absurd h h1, fun h => absurd h h1, fun h => absurd h h1⟩
  · exact ⟨fun h => absurd h1 h, fun _ _ => s, fun _ h => absurd h2 h, fun _ h => absurd h2 h⟩
  · exact ⟨fun h => absurd h1 h, fun _ h => absurd h h2, fun _ _ _ => s, fun _ _ h => absurd h3 h⟩
  · exact ⟨fun h => absurd h1 h, fun _ h => absurd h h2, fun _ _ h => absurd h h3, fun _ _ _ => s⟩
/-- the class Grammar -/
structure GCls (K : PySem.W.Frag) (G : Addr) : Prop where
  cls : Cls K G
  many : NoAttr K G "many"
  rules : NoAttr K G "rules"
/-- a grammar's object -/
def GramV (G : Addr) (H : Hp) (v : V) (g : Grammar) : Prop := ∃ a dx fs rv, v = .ref a ∧ H a = some (.ins G dx fs) ∧ fs.lookup ("many" : Str) = some (vN g.nons) ∧ fs.lookup ("rules" : Str) = some rv ∧ RulesV H rv (own g)
theorem GramV.mono {G : Addr} {H H' : Hp} {v : V} {g : Grammar} (e : Ex H H') (h : GramV G H v g) : GramV G H' v g := by
  obtain ⟨a, dx, fs, rv, q, h1, h2, h3, h4⟩ := h
  exact ⟨a, dx, fs, rv, q, e _ _ h1, h2, h3, h4.mono e⟩
section
variable {P : Program} {w : World} {K : PySem.W.Frag} {mg : Str → Option Value} {base : Heap} {C fI G : Addr}
def sp_with_holes : Sp := fun vs H Q _ => ∃ (rw sg : V) (g : Grammar) (x : List Nat), vs = [rw, sg] ∧ RulesV H rw (own g) ∧ g.rules.length ≤ 60 ∧ NatsV H sg x ∧ x.length ≤ 24 ∧ Ret H Q fun v H' => RulesV H' v (withH g x)
abbrev s_with_holes : Stmt := topS 43
/-- 0 rules, 1 signs, 2 sign -/
theorem sc_with_holes : FnScope ["rules", "signs", "sign"] ["rules", "signs"] (defScope s_with_holes) := ⟨rfl, rfl, rfl, by decide +kernel, rfl, by decide +kernel, by decide +kernel⟩
theorem ok_with_holes {f : Addr} {fd : FuncData} (F : Fun K "with_holes" "with_holes" s_with_holes f fd) (T : Glob mg) (F_hole_number : FnC P w K mg base CX0 1 "hole_number" ["sign"] sp_hole_number) (F_hole_nonterminal : FnC P w K mg base CX0 1 "hole_nonterminal" ["sign"] sp_hole_nonterminal)
    (F_holes_in : FnC P w K mg base CX0 1 "holes_in" ["signs"] sp_holes_in) : FnOk P w K mg base CX0 2 f fd ["rules", "signs"] sp_with_holes := by
  refine F.ok sc_with_holes (fun vs H Q E h => ?_) (fun cdv A outer s H vs Q E hr h => ?_)
  · obtain ⟨_, _, _, _, rfl, _⟩ := h
    rfl
  · obtain ⟨rw, sg, g, x, rfl, ⟨rl, rvs, rfl, hrl, hrp⟩, hg60, hx, hxn, ret⟩ := h
    refine ⟨_, (pss_one (ps_ret (pe_op op_cat (pv 0) (pe_lc (own := [("sign", 2)]) (g := (gName 2)) (tt := tYes) (te := (tTup (tCons (tCall sp_hole_nonterminal [] E0 (tCons (tVar 2) tNil)) (tCons (tLst (tCons (tTup (tCons (tC (.int 1)) (tCons (tVar 2) (tCons (tVar 2) tNil)))) tNil)) (tCons (tCall sp_hole_number [] E0 (tCons (tVar 2) tNil)) tNil))))) rfl sc_with_holes.nd (pi_list (pe_fc F_holes_in (hr.mono (by decide)) pass0 (pa_cons (pv 1) pa_nil))) (blkOk_by (own := [("sign", 2)]) (N := ["rules", "signs", "sign"]) (sc := defScope s_with_holes) (by decide +kernel)) (fun _ _ _ _ _ => by exact (pg_name (i := 2) sc_with_holes.nd rfl (Or.inl rfl))) (fun _ _ _ _ _ => pts_nil) (fun _ _ _ _ _ => by exact (pe_tup (pa_cons (pe_fc F_hole_nonterminal (hr.mono (by decide)) pass0 (pa_cons (pv 2) pa_nil)) (pa_cons (pe_lst (pa_cons (pe_tup (pa_cons (pe_gi T.RANGE) (pa_cons (pv 2) (pa_cons (pv 2) pa_nil)))) pa_nil)) (pa_cons (pe_fc F_hole_number (hr.mono (by decide)) pass0 (pa_cons (pv 2) pa_nil)) pa_nil))))))))), ?_⟩
    refine ⟨_, rfl, _, rfl, sg, x, rfl, hx, by omega, ?_⟩
    rintro H1 hl e1 hhl hhv
    refine ⟨hl, rfl, ⟨_, SqL.of hhv⟩, fun D hD => ?_⟩
    have hsl := holeSigns_len x
    have hDh : D ≠ hl := fun q => by rw [q, hhv] at hD; cases hD
    refine lc_list (K := K) (a := hl) (xs := (Vaglrj.holeSigns x).map vN) (fun i H' => Ex H1 H' ∧ MList RuleV H' D (((Vaglrj.holeSigns x).take i).map fun c => (holeRule c, ((Vaglrj.holeOf c).1 : Int)))) ⟨Ex.new hD, MList.new hD⟩ (fun i H' _ h => SqL.of (h.1 _ _ hhv)) ?_ ?_
    · rintro i v H2 hi ⟨e2, vs, hv, hp⟩
      obtain ⟨c, hc, rfl⟩ := get_map_vN hi
      have h256 := (TR.mem_holeSigns.mp (List.mem_of_getElem? hc)).2
      have htk : (Vaglrj.holeSigns x).take (i + 1) = (Vaglrj.holeSigns x).take i ++ [c] := by rw [List.take_succ, hc]; rfl
      have hvl := Paired.len hp
      rw [List.length_map, List.length_take] at hvl
      refine ⟨rfl, _, rfl, c, rfl, h256, _, rfl, _, rfl, three_line, fun t1 ht1 => ⟨one_line, fun l1 hl1 => ⟨_, rfl, c, rfl, h256, three_line, fun t2 ht2 => ?_⟩⟩⟩
      have ea : Ex H2 (upd H2 t1 (.tup [.int 1, vN c, vN c])) := Ex.new ht1
      have eb := ea.tr (Ex.new (o := .lst [.ref t1]) hl1)
      have ec := eb.tr (Ex.new (o := .tup [vN (Vaglrj.holeOf c).2, .ref l1, vN (Vaglrj.holeOf c).1]) ht2)
      have n1 : t1 ≠ D := fun q => by rw [q, hv] at ht1; cases ht1
      have n2 : l1 ≠ D := fun q => by rw [q, ea _ _ hv] at hl1; cases hl1
      have n3 : t2 ≠ D := fun q => by rw [q, eb _ _ hv] at ht2; cases ht2
      have n4 : t1 ≠ l1 := fun q => by rw [← q, upd_same] at hl1; cases hl1
      have n5 : l1 ≠ t2 := fun q => by rw [← q, upd_same] at ht2; cases ht2
      have n6 : t1 ≠ t2 := fun q => by rw [← q, upd_ne n4, upd_same] at ht2; cases ht2
      refine ⟨vs, ec _ _ hv, small_lt (by omega), (e2.tr ec).mut hD, ?_⟩
      rw [htk, List.map_append]
      refine MList.snoc (ec _ _ hv) (Paired.mono2 hp fun v m q => RuleV.mono (del_mono ec) q) ⟨t2, .ref l1, rfl, ?_, l1, [.ref t1], rfl, ?_, .cons ⟨t1, rfl, ?_⟩ .nil⟩
      · rw [del_ne n3, upd_same]; rfl
      · rw [del_ne n2, upd_ne n5, upd_same]
      · rw [del_ne n1, upd_ne n6, upd_ne n4, upd_same]; rfl
    · rintro H2 ⟨e2, hM⟩
      rw [List.length_map, List.take_length] at hM
      obtain ⟨D', vs, hDe, hv, hp⟩ := MList.toV (P := RuleV) (fun _ _ _ _ => RuleV.mono) hM
      cases hDe
      have h1 := Paired.len hp
      have h2 := Paired.len hrp
      have hol : (own g).length = g.rules.length := by unfold own; rw [List.length_map]
      rw [List.length_map] at h1
      refine ⟨rl, D, rvs, vs, rfl, rfl, (e1.tr e2) _ _ hrl, hv, small (by omega), fun p hp0 => ?_⟩
      refine ret _ _ ((e1.tr e2).tr (Ex.new hp0)) ⟨p, rvs ++ vs, rfl, upd_same, ?_⟩
      exact Paired.app (Paired.mono2 hrp fun v m q => RuleV.mono ((e1.tr e2).tr (Ex.new hp0)) q) (Paired.mono2 hp fun v m q => RuleV.mono (Ex.new hp0) q)
/-! ### texts and patterns read -/
/-- the ints of a row -/
def sp_text_term (C G : Addr) : Sp := fun vs H Q E => ∃ (gv sg : V) (g : Grammar) (ns : List Int) (a : Int), vs = [gv, .int a, sg] ∧ GramV G H gv g ∧ GOk g ∧ IntsV H sg ns ∧ ns.length ≤ 2000 ∧
  ((ns.any fun n => decide (n < 0) || decide (255 < n)) = true → Rz E C H (-1)) ∧
  ((ns.any fun n => decide (n < 0) || decide (255 < n)) = false → 24 < ns.length → Rz E C H (-3)) ∧
  ((ns.any fun n => decide (n < 0) || decide (255 < n)) = false → ns.length ≤ 24 → (a < 0 ∨ (g.nons : Int) ≤ a) → Rz E C H (-4)) ∧
  ((ns.any fun n => decide (n < 0) || decide (255 < n)) = false → ns.length ≤ 24 → 0 ≤ a → a < g.nons → SaidTo E C H Q (Vaglrj.saidBy g a.toNat (Vaglrj.toNats ns)))
theorem SaidTo.mono {E : XK} {C : Addr} {H H' : Hp} {Q : VK} {s : Vaglrj.Said} (e : Ex H H') (h : SaidTo E C H Q s) : SaidTo E C H' Q s := by
  cases s with
  | uncovered => exact Rz.mono e h
  | endless => exact Rz.mono e h
  | great => exact Rz.mono e h
  | term z => exact fun H2 l e2 h2 => h H2 l (e.tr e2) (e.back h2)
abbrev s_text_term : Stmt := topS 41
/-- 0 grammar, 1 nonterminal, 2 signs, 3 sign -/
theorem sc_text_term : FnScope ["grammar", "nonterminal", "signs", "sign"] ["grammar", "nonterminal", "signs"] (defScope s_text_term) := ⟨rfl, rfl, rfl, by decide +kernel, rfl, by decide +kernel, by decide +kernel⟩
theorem ok_text_term {f : Addr} {fd : FuncData} (F : Fun K "text_term" "text_term" s_text_term f fd) (T : Glob mg) (Gc : GCls K G) (Rf : PySem.RfX.RfTxt K mg C fI) (F_check_place : FnC P w K mg base (L2.CX P w) 2 "check_place" ["many", "signs", "nonterminal"] (sp_check_place C))
    (F_said : FnC P w K mg base (L2.CX P w) 6 "said" ["many", "rules", "signs", "nonterminal"] (sp_said C)) : FnOk P w K mg base (L2.CX P w) 7 f fd ["grammar", "nonterminal", "signs"] (sp_text_term C G) := by
  refine F.okX sc_text_term (fun vs H Q E h => ?_) (fun cdv A outer s H vs Q E hr h => ?_)
  · obtain ⟨_, _, _, _, _, rfl, _⟩ := h
    rfl
  · obtain ⟨gv, sg, g, ns, a, rfl, ⟨ga, gdx, gfs, grv, rfl, hga, hgm, hgr, hR⟩, ok, ⟨sl, rfl, hsl⟩, hns, k1, k3, k4, k5⟩ := h
    refine ⟨_, (pss_cons (ps_if (pt_not (pt_val (pe_callB (cr_all rfl) (by rfl) T.all (by decide +kernel) (pa_cons (pe_lc (own := [("sign", 3)]) (g := (gName 3)) (tt := tYes) (te := (tChain (rI0 fun i j => .bl (decide (i ≤ j))) (rI0 fun i j => .bl (decide (i ≤ j))) (tC (.int 0)) (tVar 3) (tC (.int 255)))) rfl sc_text_term.nd (pi_list (pv 2)) (blkOk_by (own := [("sign", 3)]) (N := ["grammar", "nonterminal", "signs", "sign"]) (sc := defScope s_text_term) (by decide +kernel)) (fun _ _ _ _ _ => by exact (pg_name (i := 3) sc_text_term.nd rfl (Or.inl rfl))) (fun _ _ _ _ _ => pts_nil) (fun _ _ _ _ _ => by exact (pe_chain op_le op_le pe_int (pv 3) (pe_gi T.MOST_BYTE)))) pa_nil))))
    (pss_one (ps_raiseRf (k := 1) rfl Rf (hr.mono (by decide)) (takes_of rfl rfl rfl rfl) (by exact (pa_cons (pe_un un_neg pe_int) pa_nil))))
    pss_nil)
    (pss_cons (ps_expr (pe_fc F_check_place (hr.mono (by decide)) (passX rfl rfl rfl rfl) (pa_cons (pe_fld (pv 0) rfl) (pa_cons (pv 2) (pa_cons (pv 1) pa_nil)))))
    (pss_one (ps_ret (pe_fc F_said (hr.mono (by decide)) (passX rfl rfl rfl rfl) (pa_cons (pe_fld (pv 0) rfl) (pa_cons (pe_fld (pv 0) rfl) (pa_cons (pv 2) (pa_cons (pv 1) pa_nil))))))))), ?_⟩
    have hall : (ns.map fun n => decide (0 ≤ n) && decide (n ≤ 255)).all id = !(ns.any fun n => decide (n < 0) || decide (255 < n)) := by
      rw [List.all_map, List.not_any_eq_all_not]
      congr 1
      funext n
      show (decide (0 ≤ n) && decide (n ≤ 255)) = !(decide (n < 0) || decide (255 < n))
      rw [Bool.not_or, ← decide_not, ← decide_not]
      congr 1 <;> rw [decide_eq_decide] <;> omega
    refine ⟨_, rfl, sl, rfl, ⟨_, SqL.of hsl⟩, fun D hD => ?_⟩
    refine lcA (K := K) (ys := ns) (g := V.int) (b := fun _ => true) (c := fun n => .bl (decide (0 ≤ n) && decide (n ≤ 255))) hD hsl (by omega) (fun _ => rfl) (fun _ _ _ _ => evb_yes) (fun n hn H' e' _ R hR => ?_) fun H1 e1 hDv => ?_
    · refine ⟨_, rfl, _, _, rfl, rfl, _, rfl, ?_⟩
      by_cases h0 : 0 ≤ n
      · rw [decide_eq_true h0]
        refine iteT ?_
        rw [decide_eq_true h0, Bool.true_and] at hR
        exact ⟨_, _, rfl, rfl, hR _ (Ex.refl _)⟩
      · rw [decide_eq_false h0]
        refine iteF ?_
        rw [decide_eq_false h0, Bool.false_and] at hR
        exact hR _ (Ex.refl _)
    refine ⟨D, ns.map fun n => decide (0 ≤ n) && decide (n ≤ 255), rfl, SqL.of (by rw [hDv, filter_true, List.map_map]; rfl), _, rfl, ?_⟩
    show if (!((ns.map fun n => decide (0 ≤ n) && decide (n ≤ 255)).all id)) = true then _ else _
    rw [hall, Bool.not_not]
    cases hbad : ns.any fun n => decide (n < 0) || decide (255 < n) with
    | true =>
      refine iteT ?_
      exact ⟨_, rfl, _, rfl, fun d hd => ((k1 hbad).mono e1).go d hd⟩
    | false =>
      refine iteF ?_
      have hgood : ∀ n ∈ ns, 0 ≤ n ∧ n ≤ 255 := fun n hn => by
        have := List.any_eq_false.mp hbad n hn
        simp only [Bool.or_eq_true, decide_eq_true_eq, not_or] at this
        omega
      have hlen : (ns.map V.int).length = ns.length := List.length_map _
      refine ⟨_, rfl, ga, G, gdx, gfs, _, rfl, e1 _ _ hga, Gc.cls, Gc.many, hgm, _, rfl, _, rfl, g.nons, sl, ns.map V.int, a, rfl, e1 _ _ hsl, fun h => (k3 hbad (by omega)).mono e1, fun h h2 => (k4 hbad (by omega) h2).mono e1, fun h h2 h3 => ?_⟩
      have hx256 : ∀ c ∈ Vaglrj.toNats ns, c < 256 := fun c hc => by
        obtain ⟨n, hn, rfl⟩ := List.mem_map.mp hc
        have := hgood n hn
        omega
      have hxl : (Vaglrj.toNats ns).length ≤ 24 := by unfold Vaglrj.toNats; rw [List.length_map]; omega
      have px : POk g (Vaglrj.toNats ns) := fun c hc => .inl (hx256 c hc)
      have hat : V.int a = vN a.toNat := by unfold vN; rw [Int.toNat_of_nonneg h2]
      have hnats : NatsV H1 (.ref sl) (Vaglrj.toNats ns) := ⟨sl, rfl, by rw [e1 _ _ hsl, ints_nats fun k hk => (hgood k hk).1]; rfl⟩
      obtain ⟨q1, q2, q3, q4⟩ := said_of ok px ((k5 hbad (by omega) h2 h3).mono e1)
      refine ⟨_, rfl, ga, G, gdx, gfs, _, rfl, e1 _ _ hga, Gc.cls, Gc.many, hgm, _, rfl, ga, G, gdx, gfs, _, rfl, e1 _ _ hga, Gc.cls, Gc.rules, hgr, _, rfl, _, rfl,
        grv, .ref sl, hh g (Vaglrj.toNats ns), Vaglrj.toNats ns, withH g (Vaglrj.toNats ns), holeNo g (Vaglrj.toNats ns), a.toNat, by rw [hat]; rfl, by rw [withH_text hx256]; exact hR.mono e1, hnats, withH_ok ok px hxl, withH_hole g _, hxl, ok.nons, by show a.toNat < g.nons; omega, q1, q2, q3, q4⟩
end
end TW
set_option Elab.async false
set_option linter.all false
set_option maxRecDepth 100000
set_option maxHeartbeats 4000000
namespace TW
open PySem PySem.Spec PyProof.Rows L2
open Vaglrc (Sym Rule Grammar Node)
open TR (GOk POk holeRule holeNo hh tt firstTerm Endless)
/-- what reading a pattern comes to -/
def PatTo (E : XK) (C : Addr) (H : Hp) (Q : VK) : Except Int Vaglrj.Term → Prop
  | .error n => Rz E C H n
  | .ok z => ∀ H' l, Ex H H' → H l = none → H' l = some (.lst (z.map vN)) → Q (.ref l) H'
theorem PatTo.mono {E : XK} {C : Addr} {H H' : Hp} {Q : VK} {s : Except Int Vaglrj.Term} (e : Ex H H') (h : PatTo E C H Q s) : PatTo E C H' Q s := by
  cases s with
  | error n => exact Rz.mono e h
  | ok z => exact fun H2 l e2 h2 => h H2 l (e.tr e2) (e.back h2)
theorem patTo_said {E : XK} {C : Addr} {H : Hp} {Q : VK} {g : Grammar} {a : Nat} {x : List Nat} : PatTo E C H Q (match Vaglrj.saidBy g a x with
    | .uncovered => .error (-7)
    | .endless => .error (-10)
    | .great => .error (-12)
    | .term y => .ok y) → SaidTo E C H Q (Vaglrj.saidBy g a x) := by
  cases Vaglrj.saidBy g a x <;> exact id
section
variable {P : Program} {w : World} {K : PySem.W.Frag} {mg : Str → Option Value} {base : Heap} {C fI G : Addr}
def sp_pattern_term (C G : Addr) : Sp := fun vs H Q E => ∃ (gv sg : V) (s : Vaglrj.State) (ns : List Int) (a : Int), vs = [gv, .int a, sg] ∧ GramV G H gv s.grammar ∧ GOk s.grammar ∧ IntsV H sg ns ∧ ns.length ≤ 2000 ∧ PatTo E C H Q (Vaglrj.pattern s a ns)
abbrev s_pattern_term : Stmt := topS 44
/-- 0 grammar, 1 nonterminal, 2 signs, 3 sign -/
theorem sc_pattern_term : FnScope ["grammar", "nonterminal", "signs", "sign"] ["grammar", "nonterminal", "signs"] (defScope s_pattern_term) := ⟨rfl, rfl, rfl, by decide +kernel, rfl, by decide +kernel, by decide +kernel⟩
theorem ok_pattern_term {f : Addr} {fd : FuncData} (F : Fun K "pattern_term" "pattern_term" s_pattern_term f fd) (T : Glob mg) (Gc : GCls K G) (Rf : PySem.RfX.RfTxt K mg C fI) (F_check_place : FnC P w K mg base (L2.CX P w) 2 "check_place" ["many", "signs", "nonterminal"] (sp_check_place C))
    (F_is_hole : FnC P w K mg base CX0 2 "is_hole" ["many", "sign"] sp_is_hole) (F_with_holes : FnC P w K mg base CX0 2 "with_holes" ["rules", "signs"] sp_with_holes)
    (F_said : FnC P w K mg base (L2.CX P w) 6 "said" ["many", "rules", "signs", "nonterminal"] (sp_said C)) : FnOk P w K mg base (L2.CX P w) 7 f fd ["grammar", "nonterminal", "signs"] (sp_pattern_term C G) := by
  refine F.okX sc_pattern_term (fun vs H Q E h => ?_) (fun cdv A outer s H vs Q E hr h => ?_)
  · obtain ⟨_, _, _, _, _, rfl, _⟩ := h
    rfl
  · obtain ⟨gv, sg, s, ns, a, rfl, ⟨ga, gdx, gfs, grv, rfl, hga, hgm, hgr, hR⟩, ok, ⟨sl, rfl, hsl⟩, hns, kp⟩ := h
    refine ⟨_, (pss_cons (ps_if (pt_val (pe_callB (cr_any rfl) (by rfl) T.any (by decide +kernel) (pa_cons (pe_lc (own := [("sign", 3)]) (g := (gName 3)) (tt := tYes) (te := (tOp (rI0 fun i j => .bl (decide (i < j))) (tVar 3) (tC (.int 0)))) rfl sc_pattern_term.nd (pi_list (pv 2)) (blkOk_by (own := [("sign", 3)]) (N := ["grammar", "nonterminal", "signs", "sign"]) (sc := defScope s_pattern_term) (by decide +kernel)) (fun _ _ _ _ _ => by exact (pg_name (i := 3) sc_pattern_term.nd rfl (Or.inl rfl))) (fun _ _ _ _ _ => pts_nil) (fun _ _ _ _ _ => by exact (pe_cmpR op_lt (pv 3) pe_int (nomark _)))) pa_nil)))
    (pss_one (ps_raiseRf (k := 1) rfl Rf (hr.mono (by decide)) (takes_of rfl rfl rfl rfl) (by exact (pa_cons (pe_un un_neg pe_int) pa_nil))))
    pss_nil)
    (pss_cons (ps_expr (pe_fc F_check_place (hr.mono (by decide)) (passX rfl rfl rfl rfl) (pa_cons (pe_fld (pv 0) rfl) (pa_cons (pv 2) (pa_cons (pv 1) pa_nil)))))
    (pss_cons (ps_if (pt_not (pt_val (pe_callB (cr_all rfl) (by rfl) T.all (by decide +kernel) (pa_cons (pe_lc (own := [("sign", 3)]) (g := (gName 3)) (tt := tYes) (te := (tOrV (tOp (rI0 fun i j => .bl (decide (i ≤ j))) (tVar 3) (tC (.int 255))) (tCall sp_is_hole [] E0 (tCons (tFld K (tVar 0) "many") (tCons (tVar 3) tNil))))) rfl sc_pattern_term.nd (pi_list (pv 2)) (blkOk_by (own := [("sign", 3)]) (N := ["grammar", "nonterminal", "signs", "sign"]) (sc := defScope s_pattern_term) (by decide +kernel)) (fun _ _ _ _ _ => by exact (pg_name (i := 3) sc_pattern_term.nd rfl (Or.inl rfl))) (fun _ _ _ _ _ => pts_nil) (fun _ _ _ _ _ => by exact (pe_or (pe_cmpR op_le (pv 3) (pe_gi T.MOST_BYTE) (nomark _)) (pe_one (pe_fc F_is_hole (hr.mono (by decide)) pass0 (pa_cons (pe_fld (pv 0) rfl) (pa_cons (pv 3) pa_nil))))))) pa_nil))))
    (pss_one (ps_raiseRf (k := 1) rfl Rf (hr.mono (by decide)) (takes_of rfl rfl rfl rfl) (by exact (pa_cons (pe_un un_neg pe_int) pa_nil))))
    pss_nil)
    (pss_one (ps_ret (pe_fc F_said (hr.mono (by decide)) (passX rfl rfl rfl rfl) (pa_cons (pe_fld (pv 0) rfl) (pa_cons (pe_fc F_with_holes (hr.mono (by decide)) pass0 (pa_cons (pe_fld (pv 0) rfl) (pa_cons (pv 2) pa_nil))) (pa_cons (pv 2) (pa_cons (pv 1) pa_nil)))))))))), ?_⟩
    refine ⟨_, rfl, sl, rfl, ⟨_, SqL.of hsl⟩, fun D hD => ?_⟩
    refine lcA (K := K) (ys := ns) (g := V.int) (b := fun _ => true) (c := fun n => .bl (decide (n < 0))) hD hsl (by omega) (fun _ => rfl) (fun _ _ _ _ => evb_yes) (fun n hn H' e' _ R hR => ⟨_, rfl, _, _, rfl, rfl, hR _ (Ex.refl _)⟩) fun H1 e1 hDv => ?_
    refine ⟨D, ns.map fun n => decide (n < 0), rfl, SqL.of (by rw [hDv, filter_true, List.map_map]; rfl), _, rfl, ?_⟩
    rw [List.any_map]
    show if (ns.any fun n => decide (n < 0)) = true then _ else _
    unfold Vaglrj.pattern at kp
    cases hbad : ns.any fun n => decide (n < 0) with
    | true =>
      rw [hbad, if_pos rfl] at kp
      refine iteT ?_
      exact ⟨_, rfl, _, rfl, fun d hd => (Rz.mono e1 kp).go d hd⟩
    | false =>
      rw [hbad, if_neg Bool.false_ne_true] at kp
      refine iteF ?_
      have hgood : ∀ n ∈ ns, 0 ≤ n := fun n hn => by
        have := List.any_eq_false.mp hbad n hn
        simpa using this
      have hlen : (ns.map V.int).length = ns.length := List.length_map _
      have hnx : ns.map V.int = (Vaglrj.toNats ns).map vN := ints_nats hgood
      refine ⟨_, rfl, ga, G, gdx, gfs, _, rfl, e1 _ _ hga, Gc.cls, Gc.many, hgm, _, rfl, _, rfl, s.grammar.nons, sl, ns.map V.int, a, rfl, e1 _ _ hsl, fun h => ?_, fun h h2 => ?_, fun h h2 h3 => ?_⟩
      · rw [if_pos (show Vaglrj.TEXT < ns.length by show 24 < _; omega)] at kp
        exact Rz.mono e1 kp
      · rw [if_neg (show ¬ Vaglrj.TEXT < ns.length by show ¬ 24 < _; omega), if_pos (by unfold Vaglrj.badNon; rcases h2 with h2 | h2 <;> simp [h2])] at kp
        exact Rz.mono e1 kp
      · rw [if_neg (show ¬ Vaglrj.TEXT < ns.length by show ¬ 24 < _; omega), if_neg (by unfold Vaglrj.badNon; simp; omega)] at kp
        have hxl : (Vaglrj.toNats ns).length ≤ 24 := by unfold Vaglrj.toNats; rw [List.length_map]; omega
        -- all(sign <= MOST_BYTE or is_hole(..))
        refine ⟨_, rfl, sl, rfl, ⟨_, SqL.of (e1 _ _ hsl)⟩, fun D2 hD2 => ?_⟩
        refine lcA (K := K) (ys := Vaglrj.toNats ns) (g := vN) (b := fun _ => true) (c := fun c => .bl (decide (c < 256) || (decide ((Vaglrj.holeOf c).1 < 10) && decide ((Vaglrj.holeOf c).2 < s.grammar.nons)))) hD2 ((e1 _ _ hsl).trans (by rw [hnx])) (by omega) (fun _ => rfl) (fun _ _ _ _ => evb_yes) (fun c hc H' e' _ R hR => ?_) fun H2 e2 hDv2 => ?_
        · refine ⟨_, rfl, _, _, rfl, rfl, _, rfl, ?_⟩
          show if decide (((c : Nat) : Int) ≤ (255 : Int)) = true then _ else _
          by_cases h1 : c < 256
          · rw [decide_eq_true (by omega)]
            refine iteT ?_
            rw [show decide (c < 256) = true from decide_eq_true h1, Bool.true_or] at hR
            exact hR _ (Ex.refl _)
          · rw [decide_eq_false (by omega)]
            refine iteF ?_
            rw [show decide (c < 256) = false from decide_eq_false h1, Bool.false_or] at hR
            refine ⟨_, rfl, ga, G, gdx, gfs, _, rfl, (e1.tr e') _ _ hga, Gc.cls, Gc.many, hgm, _, rfl, s.grammar.nons, c, rfl, ?_⟩
            rw [show decide (256 ≤ c) = true from decide_eq_true (by omega), Bool.true_and]
            exact hR _ (Ex.refl _)
        refine ⟨D2, (Vaglrj.toNats ns).map fun c => decide (c < 256) || (decide ((Vaglrj.holeOf c).1 < 10) && decide ((Vaglrj.holeOf c).2 < s.grammar.nons)), rfl, SqL.of (by rw [hDv2, filter_true, List.map_map]; rfl), _, rfl, ?_⟩
        rw [List.all_map]
        show if (!(Vaglrj.isPattern s.grammar (Vaglrj.toNats ns))) = true then _ else _
        have e12 := e1.tr e2
        cases hpt : Vaglrj.isPattern s.grammar (Vaglrj.toNats ns) with
        | false =>
          rw [hpt] at kp
          refine iteT ?_
          exact ⟨_, rfl, _, rfl, fun d hd => (Rz.mono e12 kp).go d hd⟩
        | true =>
          rw [hpt] at kp
          refine iteF ?_
          have px : POk s.grammar (Vaglrj.toNats ns) := fun c hc => by
            have := List.all_eq_true.mp hpt c hc
            simpa using this
          have hat : V.int a = vN a.toNat := by unfold vN; rw [Int.toNat_of_nonneg h2]
          have hnats : NatsV H2 (.ref sl) (Vaglrj.toNats ns) := ⟨sl, rfl, by rw [e12 _ _ hsl, hnx]⟩
          refine ⟨_, rfl, ga, G, gdx, gfs, _, rfl, e12 _ _ hga, Gc.cls, Gc.many, hgm, _, rfl, ga, G, gdx, gfs, _, rfl, e12 _ _ hga, Gc.cls, Gc.rules, hgr, _, rfl, grv, .ref sl, s.grammar, Vaglrj.toNats ns, rfl, hR.mono e12, ok.many, hnats, hxl, ?_⟩
          intro wv H3 e3 hwv
          obtain ⟨q1, q2, q3, q4⟩ := said_of ok px (SaidTo.mono (e12.tr e3) (patTo_said (E := E) (C := C) (H := H) (Q := Q) (g := s.grammar) (a := a.toNat) (x := Vaglrj.toNats ns) (by exact kp)))
          refine ⟨_, rfl, _, rfl, wv, .ref sl, hh s.grammar (Vaglrj.toNats ns), Vaglrj.toNats ns, withH s.grammar (Vaglrj.toNats ns), holeNo s.grammar (Vaglrj.toNats ns), a.toNat, by rw [hat]; rfl, hwv, hnats.mono e3, withH_ok ok px hxl, withH_hole _ _, hxl, ok.nons, by show a.toNat < s.grammar.nons; omega, q1, q2, q3, q4⟩
end
end TW
set_option Elab.async false
set_option linter.all false
set_option maxRecDepth 100000
set_option maxHeartbeats 4000000
namespace TW
open PySem PySem.Spec PyProof.Rows L2
open Vaglrc (Sym Rule Grammar Node)
open TR (GOk POk)
/-- a rewriting rule -/
def RwV (H : Hp) (v : V) (r : Vaglrj.Rewrite) : Prop := ∃ a b c, v = .ref a ∧ H a = some (.tup [vN r.non, .ref b, .ref c]) ∧ H b = some (.lst (r.left.map vN)) ∧ H c = some (.lst (r.right.map vN))
theorem RwV.mono {H H' : Hp} {v : V} {r : Vaglrj.Rewrite} (e : Ex H H') (h : RwV H v r) : RwV H' v r := by
  obtain ⟨a, b, c, q, h1, h2, h3⟩ := h
  exact ⟨a, b, c, q, e _ _ h1, e _ _ h2, e _ _ h3⟩
theorem set_len {ds L : List Int} (hd : ds.Nodup) (hm : ∀ k, k ∈ ds ↔ k ∈ L) : ds.length < L.length ↔ ¬ L.Nodup := by
  have h1 : ds.length ≤ L.length := nodup_le hd fun k hk => (hm k).mp hk
  constructor
  · intro h hn
    have := nodup_le hn fun k hk => (hm k).mpr hk
    omega
  · intro hn
    rcases Nat.lt_or_ge ds.length L.length with h | h
    · exact h
    · exfalso
      apply hn
      have : ∀ {ds L : List Int}, ds.Nodup → (∀ k, k ∈ ds → k ∈ L) → L.length ≤ ds.length → L.Nodup := by
        intro ds
        induction ds with
        | nil => intro L _ _ hl; have : L = [] := List.eq_nil_of_length_eq_zero (by simpa using hl); rw [this]; exact List.nodup_nil
        | cons d ds ih =>
          intro L hd hs hl
          have hd' := List.nodup_cons.mp hd
          have hdL := hs d List.mem_cons_self
          have ih' := ih (L := L.erase d) hd'.2 (fun k hk => (List.mem_erase_of_ne (by rintro rfl; exact hd'.1 hk)).mpr (hs k (List.mem_cons_of_mem _ hk))) (by rw [List.length_erase_of_mem hdL]; simp at hl; omega)
          have hnot : d ∉ L.erase d := by
            intro hm
            have h2 : (L.erase d).length ≤ ds.length := by rw [List.length_erase_of_mem hdL]; simp at hl; omega
            have h3 : ds.length + 1 ≤ (L.erase d).length := by
              have := nodup_le (l := d :: ds) (U := L.erase d) hd fun k hk => by
                rcases List.mem_cons.mp hk with e | hk2
                · rw [e]; exact hm
                · exact (List.mem_erase_of_ne (fun e => hd'.1 (by rw [← e]; exact hk2))).mpr (hs k (List.mem_cons_of_mem _ hk2))
              simpa using this
            omega
          exact (List.perm_cons_erase hdL).nodup_iff.mpr (List.nodup_cons.mpr ⟨hnot, ih'⟩)
      exact this hd (fun k hk => (hm k).mp hk) h
theorem toNats_len (x : List Int) : (Vaglrj.toNats x).length = x.length := by unfold Vaglrj.toNats; rw [List.length_map]
theorem pattern_ok {s : Vaglrj.State} {a : Int} {x : List Int} {z : Vaglrj.Term} (h : Vaglrj.pattern s a x = .ok z) : (∀ n ∈ x, 0 ≤ n) ∧ x.length ≤ 24 ∧ 0 ≤ a ∧ a < s.grammar.nons := by
  unfold Vaglrj.pattern at h
  by_cases h1 : (x.any fun n => decide (n < 0)) = true
  · rw [if_pos h1] at h; cases h
  · rw [if_neg h1] at h
    by_cases h2 : Vaglrj.TEXT < x.length
    · rw [if_pos h2] at h; cases h
    · rw [if_neg h2] at h
      by_cases h3 : Vaglrj.badNon s a = true
      · rw [if_pos h3] at h; cases h
      · unfold Vaglrj.badNon at h3
        simp only [Bool.or_eq_true, decide_eq_true_eq, not_or] at h3
        refine ⟨fun n hn => ?_, by have : ¬ 24 < x.length := h2; omega, by omega, by omega⟩
        have := List.any_eq_false.mp (Bool.not_eq_true _ ▸ h1) n hn
        simpa using this
section
variable {P : Program} {w : World} {K : PySem.W.Frag} {mg : Str → Option Value} {base : Heap} {C fI G : Addr}
def bad13 (x y : List Int) : Prop := Vaglrj.clash (Vaglrj.holesIn x) = true ∨ (Vaglrj.holesIn y).any (fun c => !(Vaglrc.has c (Vaglrj.holesIn x))) = true
def sp_rewriting_of (C G : Addr) : Sp := fun vs H Q E => ∃ (gv lv rv : V) (s : Vaglrj.State) (x y : List Int) (a : Int), vs = [gv, .int a, lv, rv] ∧ GramV G H gv s.grammar ∧ GOk s.grammar ∧ IntsV H lv x ∧ IntsV H rv y ∧ x.length ≤ 2000 ∧ y.length ≤ 2000 ∧
  (∀ n, Vaglrj.pattern s a x = .error n → Rz E C H n) ∧ (∀ p n, Vaglrj.pattern s a x = .ok p → Vaglrj.pattern s a y = .error n → Rz E C H n) ∧
  (∀ p q, Vaglrj.pattern s a x = .ok p → Vaglrj.pattern s a y = .ok q → Vaglrj.isBare p = true → Rz E C H (-14)) ∧
  (∀ p q, Vaglrj.pattern s a x = .ok p → Vaglrj.pattern s a y = .ok q → Vaglrj.isBare p = false → bad13 x y → Rz E C H (-13)) ∧
  (∀ p q, Vaglrj.pattern s a x = .ok p → Vaglrj.pattern s a y = .ok q → Vaglrj.isBare p = false → ¬ bad13 x y → ∀ H' v, Ex H H' → RwV H' v { non := a.toNat, left := p, right := q } → Q v H')
abbrev s_rewriting_of : Stmt := topS 45
/-- 0 grammar, 1 nonterminal, 2 left, 3 right, 4 left_term, 5 right_term, 6 holes, 7 sign -/
theorem sc_rewriting_of : FnScope ["grammar", "nonterminal", "left", "right", "left_term", "right_term", "holes", "sign"] ["grammar", "nonterminal", "left", "right"] (defScope s_rewriting_of) := ⟨rfl, rfl, rfl, by decide +kernel, rfl, by decide +kernel, by decide +kernel⟩
theorem ok_rewriting_of {f : Addr} {fd : FuncData} (F : Fun K "rewriting_of" "rewriting_of" s_rewriting_of f fd) (T : Glob mg) (Rf : PySem.RfX.RfTxt K mg C fI) (F_hole_number : FnC P w K mg base CX0 1 "hole_number" ["sign"] sp_hole_number)
    (F_holes_in : FnC P w K mg base CX0 1 "holes_in" ["signs"] sp_holes_in) (F_pattern_term : FnC P w K mg base (L2.CX P w) 7 "pattern_term" ["grammar", "nonterminal", "signs"] (sp_pattern_term C G)) :
    FnOk P w K mg base (L2.CX P w) 8 f fd ["grammar", "nonterminal", "left", "right"] (sp_rewriting_of C G) := by
  refine F.okX sc_rewriting_of (fun vs H Q E h => ?_) (fun cdv A outer s H vs Q E hr h => ?_)
  · obtain ⟨_, _, _, _, _, _, _, rfl, _⟩ := h
    rfl
  · obtain ⟨gv, lv, rv, s, x, y, a, rfl, hG, ok, hx, hy, hxn, hyn, k1, k2, k3, k4, ret⟩ := h
    refine ⟨_, (pss_cons (ps_set (i := 4) sc_rewriting_of.nd rfl (Or.inl rfl) (pe_fc F_pattern_term (hr.mono (by decide)) (passX rfl rfl rfl rfl) (pa_cons (pv 0) (pa_cons (pv 1) (pa_cons (pv 2) pa_nil)))))
    (pss_cons (ps_set (i := 5) sc_rewriting_of.nd rfl (Or.inl rfl) (pe_fc F_pattern_term (hr.mono (by decide)) (passX rfl rfl rfl rfl) (pa_cons (pv 0) (pa_cons (pv 1) (pa_cons (pv 3) pa_nil)))))
    (pss_cons (ps_set (i := 6) sc_rewriting_of.nd rfl (Or.inr rfl) (pe_fc F_holes_in (hr.mono (by decide)) pass0 (pa_cons (pv 2) pa_nil)))
    (pss_cons (ps_if (PW.pt (pw_and (pt_cmpR op_eq (pe_callB call_len_seq (by rfl) T.len (by decide +kernel) (pa_cons (pv 4) pa_nil)) pe_int (nomark _)) (pw_and1 (pt_cmpR op_ge (pe_ix ix_list (pv 4) pe_int (fun _ _ => rfl)) (pe_gi T.FIRST_HOLE) (nomark _)))))
    (pss_one (ps_raiseRf (k := 1) rfl Rf (hr.mono (by decide)) (takes_of rfl rfl rfl rfl) (by exact (pa_cons (pe_un un_neg pe_int) pa_nil))))
    pss_nil)
    (pss_cons (ps_if (pt_cmpR op_lt (pe_callB call_lenS (by rfl) T.len (by decide +kernel) (pa_cons (pe_callTy (call_setL rfl) (by rfl) T.set (by decide +kernel) (pa_cons (pe_lc (own := [("sign", 7)]) (g := (gName 7)) (tt := tYes) (te := (tCall sp_hole_number [] E0 (tCons (tVar 7) tNil))) rfl sc_rewriting_of.nd (pi_list (pv 6)) (blkOk_by (own := [("sign", 7)]) (N := ["grammar", "nonterminal", "left", "right", "left_term", "right_term", "holes", "sign"]) (sc := defScope s_rewriting_of) (by decide +kernel)) (fun _ _ _ _ _ => by exact (pg_name (i := 7) sc_rewriting_of.nd rfl (Or.inl rfl))) (fun _ _ _ _ _ => pts_nil) (fun _ _ _ _ _ => by exact (pe_fc F_hole_number (hr.mono (by decide)) pass0 (pa_cons (pv 7) pa_nil)))) pa_nil)) pa_nil)) (pe_callB call_len_seq (by rfl) T.len (by decide +kernel) (pa_cons (pv 6) pa_nil)) (nomark _))
    (pss_one (ps_raiseRf (k := 1) rfl Rf (hr.mono (by decide)) (takes_of rfl rfl rfl rfl) (by exact (pa_cons (pe_un un_neg pe_int) pa_nil))))
    pss_nil)
    (pss_cons (ps_if (pt_not (pt_val (pe_callB (cr_all rfl) (by rfl) T.all (by decide +kernel) (pa_cons (pe_lc (own := [("sign", 7)]) (g := (gName 7)) (tt := tYes) (te := (tOp (rIn K false) (tVar 7) (tVar 6))) rfl sc_rewriting_of.nd (pi_list (pe_fc F_holes_in (hr.mono (by decide)) pass0 (pa_cons (pv 3) pa_nil))) (blkOk_by (own := [("sign", 7)]) (N := ["grammar", "nonterminal", "left", "right", "left_term", "right_term", "holes", "sign"]) (sc := defScope s_rewriting_of) (by decide +kernel)) (fun _ _ _ _ _ => by exact (pg_name (i := 7) sc_rewriting_of.nd rfl (Or.inl rfl))) (fun _ _ _ _ _ => pts_nil) (fun _ _ _ _ _ => by exact (pe_cmpR op_in_seq (pv 7) (pv 6) (by rfl)))) pa_nil))))
    (pss_one (ps_raiseRf (k := 1) rfl Rf (hr.mono (by decide)) (takes_of rfl rfl rfl rfl) (by exact (pa_cons (pe_un un_neg pe_int) pa_nil))))
    pss_nil)
    (pss_one (ps_ret (pe_tup (pa_cons (pv 1) (pa_cons (pv 4) (pa_cons (pv 5) pa_nil)))))))))))), ?_⟩
    refine ⟨_, rfl, _, rfl, _, rfl, gv, lv, s, x, a, rfl, hG, ok, hx, hxn, ?_⟩
    cases hpx : Vaglrj.pattern s a x with
    | error n => exact k1 n hpx
    | ok p =>
    intro H1 pl e1 hpl hplv
    refine ⟨_, rfl, _, rfl, _, rfl, gv, rv, s, y, a, rfl, hG.mono e1, ok, hy.mono e1, hyn, ?_⟩
    cases hpy : Vaglrj.pattern s a y with
    | error n => exact (k2 p n hpx hpy).mono e1
    | ok q =>
    intro H2 ql e2 hql hqlv
    obtain ⟨x0, x24, a0, an⟩ := pattern_ok hpx
    obtain ⟨y0, y24, _, _⟩ := pattern_ok hpy
    obtain ⟨xl, rfl, hxl⟩ := hx
    obtain ⟨yl, rfl, hyl⟩ := hy
    have e12 := e1.tr e2
    have hxv : NatsV H2 (.ref xl) (Vaglrj.toNats x) := ⟨xl, rfl, by rw [e12 _ _ hxl, ints_nats x0]; rfl⟩
    refine ⟨_, rfl, .ref xl, Vaglrj.toNats x, rfl, hxv, by rw [toNats_len]; omega, ?_⟩
    intro H3 hl e3 hhl hhv
    have e23 := e2.tr e3
    have hpl3 := e23 _ _ hplv
    have hql3 := e3 _ _ hqlv
    have e03 := e12.tr e3
    -- bare
    refine ⟨_, rfl, pl, _, rfl, .inl (SqL.of hpl3), rfl, _, rfl, ?_⟩
    show if decide (V.int (((p.map vN).length : Nat) : Int) = V.int (1 : Int)) = true then _ else _
    rw [List.length_map, show (decide (V.int ((p.length : Nat) : Int) = V.int (1 : Int))) = decide (p.length = 1) from int_eq (b := 1)]
    have hnot : p.length ≠ 1 → Vaglrj.isBare p = false := fun h => by
      match p, h with
      | [], _ => rfl
      | [_], h => exact absurd rfl h
      | _ :: _ :: _, _ => rfl
    by_cases hl1 : p.length = 1
    · obtain ⟨c, rfl⟩ := List.length_eq_one_iff.mp hl1
      rw [decide_eq_true hl1]
      refine iteT ?_
      refine ⟨_, rfl, pl, _, _, _, rfl, rfl, SqL.of hpl3, atI_nat (j := 0) rfl, _, _, rfl, rfl, _, rfl, ?_⟩
      show if decide ((1000 : Int) ≤ ((c : Nat) : Int)) = true then _ else _
      by_cases hc : 1000 ≤ c
      · rw [decide_eq_true (by omega)]
        refine iteT ?_
        exact ⟨_, rfl, _, rfl, fun d hd => ((k3 _ q hpx hpy (decide_eq_true hc)).mono e03).go d hd⟩
      · rw [decide_eq_false (by omega)]
        refine iteF ?_
        have hb : Vaglrj.isBare [c] = false := decide_eq_false hc
        revert hb
        generalize [c] = p at *
        intro hb
        have hl24 := holeSigns_len (Vaglrj.toNats x)
        rw [toNats_len] at hl24
        refine ⟨_, rfl, hl, rfl, ⟨_, SqL.of hhv⟩, fun D hD => ?_⟩
        refine lcA (K := K) (ys := Vaglrj.holeSigns (Vaglrj.toNats x)) (g := vN) (b := fun _ => true) (c := fun c => vN (Vaglrj.holeOf c).1) hD hhv (by omega) (fun _ => rfl) (fun _ _ _ _ => evb_yes) (fun c hc H' e' _ R hR => ⟨_, rfl, c, rfl, (TR.mem_holeSigns.mp hc).2, hR _ (Ex.refl _)⟩) fun H4 e4 hDv => ?_
        refine ⟨D, (Vaglrj.holeSigns (Vaglrj.toNats x)).map fun c => (((Vaglrj.holeOf c).1 : Nat) : Int), rfl, SqL.of (by rw [hDv, filter_true, List.map_map]; rfl), by rw [List.length_map]; omega, fun sp c hc hsp => ?_⟩
        have e5 := e4.tr (Ex.new (o := SetO w sp (fun j => decide (j ∈ (Vaglrj.holeSigns (Vaglrj.toNats x)).map fun c => (((Vaglrj.holeOf c).1 : Nat) : Int))) c) hsp)
        refine ⟨sp, _, c, rfl, upd_same, fun ds dn dl dm => ?_⟩
        refine ⟨_, rfl, hl, _, rfl, .inl (SqL.of (e5 _ _ hhv)), _, _, rfl, rfl, _, rfl, ?_⟩
        rw [List.length_map]
        show if decide (((c : Nat) : Int) < (((Vaglrj.holeSigns (Vaglrj.toNats x)).length : Nat) : Int)) = true then _ else _
        rw [int_lt]
        have hset := set_len (L := (Vaglrj.holeSigns (Vaglrj.toNats x)).map fun c => (((Vaglrj.holeOf c).1 : Nat) : Int)) dn fun k => by rw [← dm, decide_eq_true_eq]
        rw [List.length_map, dl] at hset
        have hcl : Vaglrj.clash (Vaglrj.holesIn x) = true ↔ c < (Vaglrj.holeSigns (Vaglrj.toNats x)).length := by
          rw [hset]
          unfold Vaglrj.holesIn
          rw [TR.clash_iff (l := Vaglrj.holeSigns (Vaglrj.toNats x)) TR.onceIn_nodup]
          have : ((Vaglrj.holeSigns (Vaglrj.toNats x)).map fun c => (((Vaglrj.holeOf c).1 : Nat) : Int)) = ((Vaglrj.holeSigns (Vaglrj.toNats x)).map fun c => (Vaglrj.holeOf c).1).map fun (n : Nat) => (n : Int) := by rw [List.map_map]; rfl
          rw [this]
          have h2 : ∀ l : List Nat, (l.map fun (n : Nat) => (n : Int)).Nodup ↔ l.Nodup := fun l => by
            unfold List.Nodup
            rw [List.pairwise_map]
            exact ⟨fun h => h.imp fun h e => h (by rw [e]), fun h => h.imp fun h e => h (Int.ofNat_inj.mp e)⟩
          rw [h2]
        have e05 := e03.tr e5
        by_cases hc2 : c < (Vaglrj.holeSigns (Vaglrj.toNats x)).length
        · rw [decide_eq_true hc2]
          refine iteT ?_
          exact ⟨_, rfl, _, rfl, fun d hd => ((k4 _ q hpx hpy hb (.inl (hcl.mpr hc2))).mono e05).go d hd⟩
        rw [decide_eq_false hc2]
        refine iteF ?_
        have hyv : NatsV _ (.ref yl) (Vaglrj.toNats y) := ⟨yl, rfl, (e05 _ _ hyl).trans (by rw [ints_nats y0]; rfl)⟩
        refine ⟨_, rfl, .ref yl, Vaglrj.toNats y, rfl, hyv, by rw [toNats_len]; omega, ?_⟩
        intro H6 rl e6 hrl hrv
        have hr24 := holeSigns_len (Vaglrj.toNats y)
        rw [toNats_len] at hr24
        refine ⟨rl, rfl, ⟨_, SqL.of hrv⟩, fun D2 hD2 => ?_⟩
        refine lcA (K := K) (ys := Vaglrj.holeSigns (Vaglrj.toNats y)) (g := vN) (b := fun _ => true) (c := fun c => .bl (decide (c ∈ Vaglrj.holeSigns (Vaglrj.toNats x)))) hD2 hrv (by omega) (fun _ => rfl) (fun _ _ _ _ => evb_yes) (fun c hc H' e' _ R hR => ?_) fun H7 e7 hDv2 => ?_
        · refine ⟨_, rfl, _, rfl, hl, _, rfl, .inl (SqL.of (e' _ _ (e6 _ _ (e5 _ _ hhv)))), rfl, flat_vN _, ?_⟩
          show R (.bl (inV _ _)) _
          rw [inV_vN]
          exact hR _ (Ex.refl _)
        have e07 := (e05.tr e6).tr e7
        refine ⟨D2, (Vaglrj.holeSigns (Vaglrj.toNats y)).map fun c => decide (c ∈ Vaglrj.holeSigns (Vaglrj.toNats x)), rfl, SqL.of (by rw [hDv2, filter_true, List.map_map]; rfl), _, rfl, ?_⟩
        have hall : (!((Vaglrj.holeSigns (Vaglrj.toNats y)).map fun c => decide (c ∈ Vaglrj.holeSigns (Vaglrj.toNats x))).all id) = (Vaglrj.holesIn y).any fun c => !(Vaglrc.has c (Vaglrj.holesIn x)) := by
          rw [List.all_map, List.not_all_eq_any_not]
          unfold Vaglrj.holesIn
          congr 1
          funext c
          show (!decide (c ∈ _)) = !(Vaglrc.has c _)
          congr 1
          rw [Bool.eq_iff_iff, decide_eq_true_eq, TR.has_iff]
        show if (!((Vaglrj.holeSigns (Vaglrj.toNats y)).map fun c => decide (c ∈ Vaglrj.holeSigns (Vaglrj.toNats x))).all id) = true then _ else _
        rw [hall]
        cases hbad : (Vaglrj.holesIn y).any fun c => !(Vaglrc.has c (Vaglrj.holesIn x)) with
        | true =>
          refine iteT ?_
          exact ⟨_, rfl, _, rfl, fun d hd => ((k4 _ q hpx hpy hb (.inr hbad)).mono e07).go d hd⟩
        | false =>
          refine iteF ?_
          have hat : V.int a = vN a.toNat := by unfold vN; rw [Int.toNat_of_nonneg a0]
          refine ⟨_, rfl, _, rfl, _, rfl, three_line, fun t ht => ?_⟩
          have e57 := (e5.tr e6).tr e7
          refine ret _ q hpx hpy hb (fun h => ?_) _ _ (e07.tr (Ex.new ht)) ⟨t, pl, ql, rfl, by rw [upd_same, ← hat], (e57.tr (Ex.new ht)) _ _ hpl3, (e57.tr (Ex.new ht)) _ _ hql3⟩
          rcases h with h | h
          · exact hc2 (hcl.mp h)
          · rw [hbad] at h; cases h
    · rw [decide_eq_false hl1]
      refine iteF ?_
      refine iteF ?_
      have hb : Vaglrj.isBare p = false := hnot hl1
      have hl24 := holeSigns_len (Vaglrj.toNats x)
      rw [toNats_len] at hl24
      refine ⟨_, rfl, hl, rfl, ⟨_, SqL.of hhv⟩, fun D hD => ?_⟩
      refine lcA (K := K) (ys := Vaglrj.holeSigns (Vaglrj.toNats x)) (g := vN) (b := fun _ => true) (c := fun c => vN (Vaglrj.holeOf c).1) hD hhv (by omega) (fun _ => rfl) (fun _ _ _ _ => evb_yes) (fun c hc H' e' _ R hR => ⟨_, rfl, c, rfl, (TR.mem_holeSigns.mp hc).2, hR _ (Ex.refl _)⟩) fun H4 e4 hDv => ?_
      refine ⟨D, (Vaglrj.holeSigns (Vaglrj.toNats x)).map fun c => (((Vaglrj.holeOf c).1 : Nat) : Int), rfl, SqL.of (by rw [hDv, filter_true, List.map_map]; rfl), by rw [List.length_map]; omega, fun sp c hc hsp => ?_⟩
      have e5 := e4.tr (Ex.new (o := SetO w sp (fun j => decide (j ∈ (Vaglrj.holeSigns (Vaglrj.toNats x)).map fun c => (((Vaglrj.holeOf c).1 : Nat) : Int))) c) hsp)
      refine ⟨sp, _, c, rfl, upd_same, fun ds dn dl dm => ?_⟩
      refine ⟨_, rfl, hl, _, rfl, .inl (SqL.of (e5 _ _ hhv)), _, _, rfl, rfl, _, rfl, ?_⟩
      rw [List.length_map]
      show if decide (((c : Nat) : Int) < (((Vaglrj.holeSigns (Vaglrj.toNats x)).length : Nat) : Int)) = true then _ else _
      rw [int_lt]
      have hset := set_len (L := (Vaglrj.holeSigns (Vaglrj.toNats x)).map fun c => (((Vaglrj.holeOf c).1 : Nat) : Int)) dn fun k => by rw [← dm, decide_eq_true_eq]
      rw [List.length_map, dl] at hset
      have hcl : Vaglrj.clash (Vaglrj.holesIn x) = true ↔ c < (Vaglrj.holeSigns (Vaglrj.toNats x)).length := by
        rw [hset]
        unfold Vaglrj.holesIn
        rw [TR.clash_iff (l := Vaglrj.holeSigns (Vaglrj.toNats x)) TR.onceIn_nodup]
        have : ((Vaglrj.holeSigns (Vaglrj.toNats x)).map fun c => (((Vaglrj.holeOf c).1 : Nat) : Int)) = ((Vaglrj.holeSigns (Vaglrj.toNats x)).map fun c => (Vaglrj.holeOf c).1).map fun (n : Nat) => (n : Int) := by rw [List.map_map]; rfl
        rw [this]
        have h2 : ∀ l : List Nat, (l.map fun (n : Nat) => (n : Int)).Nodup ↔ l.Nodup := fun l => by
          unfold List.Nodup
          rw [List.pairwise_map]
          exact ⟨fun h => h.imp fun h e => h (by rw [e]), fun h => h.imp fun h e => h (Int.ofNat_inj.mp e)⟩
        rw [h2]
      have e05 := e03.tr e5
      by_cases hc2 : c < (Vaglrj.holeSigns (Vaglrj.toNats x)).length
      · rw [decide_eq_true hc2]
        refine iteT ?_
        exact ⟨_, rfl, _, rfl, fun d hd => ((k4 _ q hpx hpy hb (.inl (hcl.mpr hc2))).mono e05).go d hd⟩
      rw [decide_eq_false hc2]
      refine iteF ?_
      have hyv : NatsV _ (.ref yl) (Vaglrj.toNats y) := ⟨yl, rfl, (e05 _ _ hyl).trans (by rw [ints_nats y0]; rfl)⟩
      refine ⟨_, rfl, .ref yl, Vaglrj.toNats y, rfl, hyv, by rw [toNats_len]; omega, ?_⟩
      intro H6 rl e6 hrl hrv
      have hr24 := holeSigns_len (Vaglrj.toNats y)
      rw [toNats_len] at hr24
      refine ⟨rl, rfl, ⟨_, SqL.of hrv⟩, fun D2 hD2 => ?_⟩
      refine lcA (K := K) (ys := Vaglrj.holeSigns (Vaglrj.toNats y)) (g := vN) (b := fun _ => true) (c := fun c => .bl (decide (c ∈ Vaglrj.holeSigns (Vaglrj.toNats x)))) hD2 hrv (by omega) (fun _ => rfl) (fun _ _ _ _ => evb_yes) (fun c hc H' e' _ R hR => ?_) fun H7 e7 hDv2 => ?_
      · refine ⟨_, rfl, _, rfl, hl, _, rfl, .inl (SqL.of (e' _ _ (e6 _ _ (e5 _ _ hhv)))), rfl, flat_vN _, ?_⟩
        show R (.bl (inV _ _)) _
        rw [inV_vN]
        exact hR _ (Ex.refl _)
      have e07 := (e05.tr e6).tr e7
      refine ⟨D2, (Vaglrj.holeSigns (Vaglrj.toNats y)).map fun c => decide (c ∈ Vaglrj.holeSigns (Vaglrj.toNats x)), rfl, SqL.of (by rw [hDv2, filter_true, List.map_map]; rfl), _, rfl, ?_⟩
      have hall : (!((Vaglrj.holeSigns (Vaglrj.toNats y)).map fun c => decide (c ∈ Vaglrj.holeSigns (Vaglrj.toNats x))).all id) = (Vaglrj.holesIn y).any fun c => !(Vaglrc.has c (Vaglrj.holesIn x)) := by
        rw [List.all_map, List.not_all_eq_any_not]
        unfold Vaglrj.holesIn
        congr 1
        funext c
        show (!decide (c ∈ _)) = !(Vaglrc.has c _)
        congr 1
        rw [Bool.eq_iff_iff, decide_eq_true_eq, TR.has_iff]
      show if (!((Vaglrj.holeSigns (Vaglrj.toNats y)).map fun c => decide (c ∈ Vaglrj.holeSigns (Vaglrj.toNats x))).all id) = true then _ else _
      rw [hall]
      cases hbad : (Vaglrj.holesIn y).any fun c => !(Vaglrc.has c (Vaglrj.holesIn x)) with
      | true =>
        refine iteT ?_
        exact ⟨_, rfl, _, rfl, fun d hd => ((k4 _ q hpx hpy hb (.inr hbad)).mono e07).go d hd⟩
      | false =>
        refine iteF ?_
        have hat : V.int a = vN a.toNat := by unfold vN; rw [Int.toNat_of_nonneg a0]
        refine ⟨_, rfl, _, rfl, _, rfl, three_line, fun t ht => ?_⟩
        have e57 := (e5.tr e6).tr e7
        refine ret _ q hpx hpy hb (fun h => ?_) _ _ (e07.tr (Ex.new ht)) ⟨t, pl, ql, rfl, by rw [upd_same, ← hat], (e57.tr (Ex.new ht)) _ _ hpl3, (e57.tr (Ex.new ht)) _ _ hql3⟩
        rcases h with h | h
        · exact hc2 (hcl.mp h)
        · rw [hbad] at h; cases h
end
end TW
set_option Elab.async false
set_option linter.all false
set_option maxRecDepth 100000
set_option maxHeartbeats 4000000
namespace TW
open PySem PySem.Spec PyProof.Rows L2
open Vaglrc (Sym Rule Grammar Node)
open TR (GOk Go NoHole kinds kindsT)
/-- a symbol's kind, as the program has it -/
def kindV (s : Sym) : V := .int (symT s).1
section
variable {P : Program} {w : World} {K : PySem.W.Frag} {mg : Str → Option Value} {base : Heap}
def sp_nodes_of : Sp := fun vs H Q _ => ∃ (rw yv : V) (g : Grammar) (y : List Nat) (a : Nat), vs = [rw, yv] ∧ RulesV H rw (own g) ∧ GOk g ∧ NatsV H yv y ∧ Go g NoHole [.non a] y [] ∧ y.length ≤ 400 ∧ ∀ H' l, Ex H H' → H l = none → H' l = some (.lst ((kindsT g a y).map V.bl)) → Q (.ref l) H'
abbrev s_nodes_of : Stmt := topS 48
/-- 0 rules, 1 numbers, 2 found, 3 waiting, 4 number, 5 kind, 6 symbol -/
theorem sc_nodes_of : FnScope ["rules", "numbers", "found", "waiting", "number", "kind", "symbol"] ["rules", "numbers"] (defScope s_nodes_of) := ⟨rfl, rfl, rfl, by decide +kernel, rfl, by decide +kernel, by decide +kernel⟩
theorem own_get {g : Grammar} {c : Nat} {q : Rule} (h : g.rules[c]? = some q) : (own g)[c]? = some (q, -1) := by
  unfold own
  rw [List.getElem?_map, h]; rfl
theorem ok_nodes_of {f : Addr} {fd : FuncData} (F : Fun K "nodes_of" "nodes_of" s_nodes_of f fd) (T : Glob mg) : FnOk P w K mg base CX0 1 f fd ["rules", "numbers"] sp_nodes_of := by
  refine F.ok sc_nodes_of (fun vs H Q E h => ?_) (fun cdv A outer s H vs Q E hr h => ?_)
  · obtain ⟨_, _, _, _, _, rfl, _⟩ := h
    rfl
  · obtain ⟨rw, yv, g, y, a, rfl, ⟨rl, rvs, rfl, hrl, hrp⟩, ok, ⟨yl, rfl, hyl⟩, hgo, hy400, ret⟩ := h
    refine ⟨_, (pss_cons (ps_set (i := 2) sc_nodes_of.nd rfl (Or.inl rfl) (pe_lst pa_nil))
    (pss_cons (ps_set (i := 3) sc_nodes_of.nd rfl (Or.inl rfl) (pe_lst (pa_cons (pe_gi T.NONTERMINAL) pa_nil)))
    (pss_cons (ps_for PassesOwn.never rfl (pi_list (pv 1)) (pg_name (i := 4) sc_nodes_of.nd rfl (Or.inl rfl))
    (pss_cons (ps_set (i := 5) sc_nodes_of.nd rfl (Or.inl rfl) (pe_bm0 PySem.F.plainAttrs_list PySem.F.slot_list_pop PySem.F.type_list_pop mt_pop (pv 3)))
    (pss_cons (ps_expr (pe_bm PySem.F.plainAttrs_list PySem.F.slot_list_append PySem.F.type_list_append mt_append (pv 2) (pa_cons (pe_cmpR op_eq (pv 5) (pe_gi T.NONTERMINAL) (nomark _)) pa_nil)))
    (pss_one (ps_if (pt_cmpR op_eq (pv 5) (pe_gi T.NONTERMINAL) (nomark _))
    (pss_one (ps_for PassesOwn.never rfl (pi_reversed (by rfl) T.reversed (pa_cons (pe_ix ix_tup (pe_ix ix_list (pv 0) (pv 4) (fun _ _ => rfl)) pe_int (fun _ _ => rfl)) pa_nil)) (pg_name (i := 6) sc_nodes_of.nd rfl (Or.inl rfl))
    (pss_one (ps_expr (pe_bm PySem.F.plainAttrs_list PySem.F.slot_list_append PySem.F.type_list_append mt_append (pv 3) (pa_cons (pe_ix ix_tup (pv 6) pe_int (fun _ _ => rfl)) pa_nil))))))
    pss_nil)))))
    (pss_one (ps_ret (pv 2)))))), ?_⟩
    refine ⟨nil_line, fun fl hfl => ⟨one_line, fun wl hwl => ?_⟩⟩
    have e1 : Ex H (upd H fl (.lst [])) := Ex.new hfl
    have hwlH : H wl = none := e1.back hwl
    have e2 := e1.mut (o := .lst [.int 0]) hwlH
    have hfw : fl ≠ wl := fun q => by rw [← q, upd_same] at hwl; cases hwl
    refine ⟨_, rfl, yl, rfl, ⟨_, SqL.of (e2 _ _ hyl)⟩, for_list (K := K) (a := yl) (xs := y.map vN) (fun i σ H' => ∃ (l : List Sym) (v4 v5 v6 : Option V), σ = [some (.ref rl), some (.ref yl), some (.ref fl), some (.ref wl), v4, v5, v6] ∧ Ex H H' ∧
      H' fl = some (.lst ((kinds g [.non a] (y.take i)).map V.bl)) ∧ H' wl = some (.lst (l.map kindV).reverse) ∧ Go g NoHole [.non a] (y.take i) l ∧ Go g NoHole l (y.drop i) [] ∧ l.length ≤ 1 + 8 * i ∧ i ≤ y.length)
      ⟨[.non a], none, none, none, rfl, e2, by rw [upd_ne hfw]; exact upd_same, upd_same, .nil, hgo, by simp, Nat.zero_le _⟩ (fun i σ H' _ ⟨_, _, _, _, _, e, _⟩ => SqL.of (e _ _ hyl)) ?_ ?_⟩
    · rintro i v σ H1 hi ⟨l, v4, v5, v6, rfl, e3, hf1, hw1, hg1, hg2, hll, hil⟩
      obtain ⟨c, hc, rfl⟩ := get_map_vN hi
      have hlt := (List.getElem?_eq_some_iff.mp hc).1
      have htk : y.take (i + 1) = y.take i ++ [c] := by rw [List.take_succ, hc]; rfl
      have hdr : y.drop i = c :: y.drop (i + 1) := by
        rw [List.drop_eq_getElem_cons hlt]
        rw [List.getElem?_eq_getElem hlt] at hc
        rw [Option.some.inj hc]
      rw [hdr] at hg2
      cases l with
      | nil => cases hg2
      | cons sm l1 =>
        rw [List.map_cons, List.reverse_cons] at hw1
        refine ⟨_, rfl, .inl ⟨rfl, _, SqL.of hw1⟩, wl, _, kindV sm, rfl, rfl, hw1, by simp, ?_⟩
        rw [List.dropLast_concat]
        have hf2 : upd H1 wl (.lst (l1.map kindV).reverse) fl = some (.lst ((kinds g [.non a] (y.take i)).map V.bl)) := by rw [upd_ne hfw]; exact hf1
        have e4 : Ex H (upd H1 wl (.lst (l1.map kindV).reverse)) := e3.mut hwlH
        have hw2 : upd H1 wl (.lst (l1.map kindV).reverse) wl = some (.lst (l1.map kindV).reverse) := upd_same
        generalize upd H1 wl (.lst (l1.map kindV).reverse) = H2 at hf2 e4 hw2
        have hkl : (kinds g [.non a] (y.take i)).length = i := by rw [TR.kinds_length hg1, List.length_take]; omega
        refine ⟨_, rfl, .inl ⟨rfl, _, SqL.of hf2⟩, _, rfl, rfl, fl, _, _, rfl, rfl, hf2, small_lt (by rw [List.length_map]; omega), ?_⟩
        have e5 := e4.mut (o := .lst ((kinds g [.non a] (y.take i)).map V.bl ++ [V.bl (decide (kindV sm = .int 0))])) hfl
        have hw3 : upd H2 fl (.lst ((kinds g [.non a] (y.take i)).map V.bl ++ [V.bl (decide (kindV sm = .int 0))])) wl = some (.lst (l1.map kindV).reverse) := by rw [upd_ne (Ne.symm hfw)]; exact hw2
        have hf3 : upd H2 fl (.lst ((kinds g [.non a] (y.take i)).map V.bl ++ [V.bl (decide (kindV sm = .int 0))])) fl = some (.lst ((kinds g [.non a] (y.take i)).map V.bl ++ [V.bl (decide (kindV sm = .int 0))])) := upd_same
        generalize upd H2 fl (.lst ((kinds g [.non a] (y.take i)).map V.bl ++ [V.bl (decide (kindV sm = .int 0))])) = H3 at e5 hw3 hf3
        refine ⟨_, rfl, rfl, _, rfl, ?_⟩
        cases sm with
        | range lo hi =>
          rw [show decide (kindV (.range lo hi) = V.int 0) = false by simp [kindV, symT]] at hf3 ⊢
          refine iteF ?_
          cases hg2 with
          | rng h1 h2 h3 =>
            refine ⟨l1, _, _, _, rfl, e5, ?_, hw3, ?_, h3, by simp at hll; omega, hlt⟩
            · rw [hf3, htk, TR.kinds_drop hg1, List.map_append]; rfl
            · rw [htk]; exact hg1.trans (.rng h1 h2 .nil)
        | non b =>
          rw [show decide (kindV (.non b) = V.int 0) = true by simp [kindV, symT]] at hf3 ⊢
          refine iteT ?_
          rcases hg2.inv_non with ⟨k, _, h, _⟩ | ⟨q, hq, hlh, h3⟩
          · exact h.elim
          obtain ⟨rv, hrv, ra, sv, rfl, hra, sl, svs, rfl, hsl, hsp⟩ := Paired.at hrp (own_get hq)
          have hsl' := e5 _ _ hsl
          have hsv : svs.length = q.rhs.length := Paired.len hsp
          have h8 := ok.len q (List.mem_of_getElem? hq)
          simp at hll
          refine ⟨_, rfl, _, rfl, rl, _, _, _, rfl, rfl, SqL.of (e5 _ _ hrl), atI_nat hrv, ra, _, _, _, rfl, rfl, SqT.of (e5 _ _ hra), atI_nat (j := 1) rfl, sl, _, rfl, SqL.of hsl', for_it (walk_rev (xs := svs)) (fun j σ H' => ∃ (v6 : Option V), σ = [some (.ref rl), some (.ref yl), some (.ref fl), some (.ref wl), some (vN c), some (kindV (.non b)), v6] ∧ Ex H H' ∧
            H' fl = H3 fl ∧ H' wl = some (.lst ((q.rhs.drop (q.rhs.length - j) ++ l1).map kindV).reverse)) ⟨_, rfl, e5, rfl, by rw [Nat.sub_zero, List.drop_length]; exact hw3⟩ (fun j σ H' _ ⟨_, _, e, _⟩ => SqL.of (e _ _ hsl)) ?_ ?_⟩
          · rintro j v σ Hx H5 hj ⟨v6, rfl, e6, hf5, hw5⟩ ⟨rfl, hv⟩
            rw [hsv] at hj
            rw [hsv, show q.rhs.length - 1 - j = q.rhs.length - (j + 1) by omega] at hv
            obtain ⟨s1, hs1, sa, rfl, hsa⟩ := Paired.at' hsp hv
            have hdrop : q.rhs.drop (q.rhs.length - (j + 1)) = s1 :: q.rhs.drop (q.rhs.length - j) := by
              have hlt := (List.getElem?_eq_some_iff.mp hs1).1
              rw [List.drop_eq_getElem_cons hlt, show q.rhs.length - (j + 1) + 1 = q.rhs.length - j by omega]
              rw [List.getElem?_eq_getElem hlt] at hs1
              rw [Option.some.inj hs1]
            have hdl : (q.rhs.drop (q.rhs.length - j)).length ≤ 8 := by rw [List.length_drop]; omega
            refine ⟨_, rfl, .inl ⟨rfl, _, SqL.of hw5⟩, _, rfl, sa, _, _, _, rfl, rfl, SqT.of (e6 _ _ hsa), atI_nat (j := 0) rfl, wl, _, _, rfl, rfl, hw5, small_lt ?_, ?_⟩
            · rw [List.length_reverse, List.length_map, List.length_append]; omega
            · refine ⟨_, rfl, e6.mut hwlH, by rw [upd_ne hfw]; exact hf5, ?_⟩
              rw [upd_same, hdrop, List.cons_append, List.map_cons, List.reverse_cons]; rfl
          · rintro σ H5 ⟨v6, rfl, e6, hf5, hw5⟩
            rw [hsv, Nat.sub_self, List.drop_zero] at hw5
            refine ⟨q.rhs ++ l1, _, _, _, rfl, e6, ?_, hw5, ?_, h3, by rw [List.length_append]; omega, hlt⟩
            · rw [hf5, hf3, htk, TR.kinds_drop hg1, List.map_append]; rfl
            · rw [htk]; exact hg1.trans (.node hq hlh .nil)
    · rintro σ H1 ⟨l, v4, v5, v6, rfl, e3, hf1, hw1, hg1, hg2, hll, hil⟩
      rw [List.length_map, List.take_length] at hf1
      exact ⟨_, rfl, ret _ fl e3 hfl hf1⟩
end
end TW
set_option Elab.async false
set_option linter.all false
set_option maxRecDepth 100000
set_option maxHeartbeats 4000000
namespace TW
open PySem PySem.Spec PyProof.Rows L2
open Vaglrc (Sym Rule Grammar Node)
open TR (GOk Go NoHole kinds kindsT stopN)
/-- where what begins at each place ends -/
def stopRow (g : Grammar) (a : Nat) (y : List Nat) : List Nat := (List.range y.length).map (stopN g (kindsT g a y) y)
theorem stopRow_len {g : Grammar} {a : Nat} {y : List Nat} : (stopRow g a y).length = y.length := by simp [stopRow]
theorem stopRow_get {g : Grammar} {a : Nat} {y : List Nat} {i : Nat} (h : i < y.length) : (stopRow g a y)[i]? = some (stopN g (kindsT g a y) y i) := by
  unfold stopRow
  rw [List.getElem?_map, range_get h]; rfl
theorem rep_flat {α : Type} (x : α) : ∀ n : Nat, (List.replicate n [x]).flatten = List.replicate n x
  | 0 => rfl
  | n + 1 => by rw [List.replicate_succ, List.flatten_cons, rep_flat x n]; rfl
section
variable {P : Program} {w : World} {K : PySem.W.Frag} {mg : Str → Option Value} {base : Heap}
def sp_stops_of : Sp := fun vs H Q _ => ∃ (rw yv kv : V) (g : Grammar) (y : List Nat) (a : Nat), vs = [rw, yv, kv] ∧ RulesV H rw (own g) ∧ GOk g ∧ NatsV H yv y ∧ BoolsV H kv (kindsT g a y) ∧ Go g NoHole [.non a] y [] ∧ y.length ≤ 400 ∧ ∀ H' l, Ex H H' → H l = none → H' l = some (.lst ((stopRow g a y).map vN)) → Q (.ref l) H'
abbrev s_stops_of : Stmt := topS 49
/-- 0 rules, 1 numbers, 2 nodes, 3 stops, 4 at, 5 stop, 6 symbol -/
theorem sc_stops_of : FnScope ["rules", "numbers", "nodes", "stops", "at", "stop", "symbol"] ["rules", "numbers", "nodes"] (defScope s_stops_of) := ⟨rfl, rfl, rfl, by decide +kernel, rfl, by decide +kernel, by decide +kernel⟩
theorem ok_stops_of {f : Addr} {fd : FuncData} (F : Fun K "stops_of" "stops_of" s_stops_of f fd) (T : Glob mg) : FnOk P w K mg base CX0 1 f fd ["rules", "numbers", "nodes"] sp_stops_of := by
  refine F.ok sc_stops_of (fun vs H Q E h => ?_) (fun cdv A outer s H vs Q E hr h => ?_)
  · obtain ⟨_, _, _, _, _, _, rfl, _⟩ := h
    rfl
  · obtain ⟨rw, yv, kv, g, y, a, rfl, ⟨rl, rvs, rfl, hrl, hrp⟩, ok, ⟨yl, rfl, hyl⟩, ⟨kl, rfl, hkl⟩, hgo, hy400, ret⟩ := h
    have hkn : (kindsT g a y).length = y.length := TR.kinds_length hgo
    refine ⟨_, (pss_cons (ps_set (i := 3) sc_stops_of.nd rfl (Or.inl rfl) (pe_op op_rep (pe_lst (pa_cons pe_int pa_nil)) (pe_callB call_len_seq (by rfl) T.len (by decide +kernel) (pa_cons (pv 1) pa_nil))))
    (pss_cons (ps_for PassesOwn.never rfl (pi_range3 (by rfl) T.range (pa_cons (pe_op op_sub (pe_callB call_len_seq (by rfl) T.len (by decide +kernel) (pa_cons (pv 1) pa_nil)) pe_int) (pa_cons (pe_un un_neg pe_int) (pa_cons (pe_un un_neg pe_int) pa_nil)))) (pg_name (i := 4) sc_stops_of.nd rfl (Or.inl rfl))
    (pss_cons (ps_set (i := 5) sc_stops_of.nd rfl (Or.inl rfl) (pe_op op_add (pv 4) pe_int))
    (pss_cons (ps_if (pt_val (pe_ix ix_list (pv 2) (pv 4) (fun _ _ => rfl)))
    (pss_one (ps_for PassesOwn.never rfl (pi_list (pe_ix ix_tup (pe_ix ix_list (pv 0) (pe_ix ix_list (pv 1) (pv 4) (fun _ _ => rfl)) (fun _ _ => rfl)) pe_int (fun _ _ => rfl))) (pg_name (i := 6) sc_stops_of.nd rfl (Or.inl rfl))
    (pss_one (ps_set (i := 5) sc_stops_of.nd rfl (Or.inl rfl) (pe_ix ix_list (pv 3) (pv 5) (fun _ _ => rfl))))))
    pss_nil)
    (pss_one (ps_asg (pv 5) (pg_sub (pv 3) (pv 4) set_list))))))
    (pss_one (ps_ret (pv 3))))), ?_⟩
    refine ⟨one_line, fun zl hzl => ?_⟩
    have e0 := Ex.new (o := .lst [.int 0]) hzl
    refine ⟨_, rfl, yl, _, rfl, .inl (SqL.of (e0 _ _ hyl)), zl, _, _, rfl, rfl, upd_same, by rw [List.length_map]; omega, by rw [List.length_map]; omega, by rw [List.length_map]; exact Nat.le_of_lt (small_lt (by simp; omega)), fun sl hsl => ?_⟩
    have hslH : H sl = none := e0.back hsl
    have e1 := e0.mut (o := .lst (List.replicate ((y.map vN).length : Int).toNat [V.int 0]).flatten) hslH
    have hs1 : upd (upd H zl (.lst [.int 0])) sl (.lst (List.replicate ((y.map vN).length : Int).toNat [V.int 0]).flatten) sl = some (.lst (List.replicate y.length (vN 0))) := by
      rw [upd_same, rep_flat, List.length_map, Int.toNat_natCast]; rfl
    generalize upd (upd H zl (.lst [.int 0])) sl (.lst (List.replicate ((y.map vN).length : Int).toNat [V.int 0]).flatten) = H1 at e1 hs1
    refine ⟨_, rfl, yl, _, rfl, .inl (SqL.of (e1 _ _ hyl)), _, _, rfl, rfl, _, rfl, _, rfl, _, _, _, _, rfl, RgC.neg ?_ ?_ ?_ ?_, for_rangeC (fun k σ H' => ∃ (xs : List V) (v4 v5 v6 : Option V), σ = [some (.ref rl), some (.ref yl), some (.ref kl), some (.ref sl), v4, v5, v6] ∧ Ex H H' ∧ H' sl = some (.lst xs) ∧ xs.length = y.length ∧ ∀ i, y.length - k ≤ i → i < y.length → xs[i]? = some (vN (stopN g (kindsT g a y) y i)))
      ⟨_, none, none, none, rfl, e1, hs1, by simp, fun i h1 h2 => by omega⟩ ?_ ?_⟩
    · rw [List.length_map]; omega
    · rw [List.length_map]; omega
    · omega
    · omega
    · rintro k σ H2 hk ⟨xs, v4, v5, v6, rfl, e2, hs2, hxl, hxs⟩
      rw [List.length_map] at hk ⊢
      have hk' : k < y.length := by omega
      have hat : ((y.length : Int) - 1 + (k : Nat) * (-1)) = ((y.length - 1 - k : Nat) : Int) := by omega
      rw [hat]
      obtain ⟨i, hi⟩ : ∃ i, i = y.length - 1 - k := ⟨_, rfl⟩
      rw [← hi]
      have hiy : i < y.length := by omega
      have hp1 : ((i : Int) + 1) = ((i + 1 : Nat) : Int) := rfl
      obtain ⟨nd, hnd⟩ : ∃ b, (kindsT g a y)[i]? = some b := ⟨_, List.getElem?_eq_getElem (by omega)⟩
      refine ⟨_, rfl, _, _, rfl, rfl, _, rfl, _, rfl, kl, _, _, _, rfl, rfl, SqL.of (e2 _ _ hkl), atI_nat (map_bl_get hnd), nd, rfl, ?_⟩
      have hlast : ∀ (D : Ends) (v6 : Option V), (∀ σ H', (∃ (xs : List V) (v4 v5 v6 : Option V), σ = [some (.ref rl), some (.ref yl), some (.ref kl), some (.ref sl), v4, v5, v6] ∧ Ex H H' ∧ H' sl = some (.lst xs) ∧ xs.length = y.length ∧ ∀ i, y.length - (k + 1) ≤ i → i < y.length → xs[i]? = some (vN (stopN g (kindsT g a y) y i))) → D.nx σ H') →
          tAsg (tVar 5) (gSub (tVar 3) (tVar 4) rSetL) D [some (.ref rl), some (.ref yl), some (.ref kl), some (.ref sl), some (vN i), some (vN (stopN g (kindsT g a y) y i)), v6] H2 := by
        intro D v6 hD
        refine ⟨_, rfl, _, rfl, _, rfl, sl, _, _, i, rfl, rfl, hs2, ixN_nat (by omega), hD _ _ ⟨_, _, _, _, rfl, e2.mut hslH, upd_same, by rw [List.length_set]; exact hxl, fun j h1 h2 => ?_⟩⟩
        rw [List.getElem?_set]
        split
        · next h => subst h; rw [if_pos (by omega)]
        · next h => exact hxs j (by omega) h2
      cases nd with
      | false =>
        refine iteF ?_
        have := hlast
        rw [TR.byte_at ok hgo hnd] at this
        exact this _ _ fun σ H' h => h
      | true =>
        refine iteT ?_
        obtain ⟨b, l, q, c, u, v, g1, hc, hq, hlh, hd, g2, g3, g4, hst⟩ := TR.node_at ok hgo hnd
        obtain ⟨rv, hrv, ra, sv, rfl, hra, ql, svs, rfl, hql, hsp⟩ := Paired.at hrp (own_get hq)
        have hsv : svs.length = q.rhs.length := Paired.len hsp
        have hy0 : y = y.take i ++ (c :: u ++ v) := by rw [← hd]; exact (List.take_append_drop i y).symm
        have htl : (y.take i).length = i := by rw [List.length_take]; omega
        have hlen := congrArg List.length hy0
        simp only [List.length_append, List.length_cons, htl] at hlen
        refine ⟨_, rfl, _, rfl, _, rfl, yl, _, _, _, rfl, rfl, SqL.of (e2 _ _ hyl), atI_nat (map_vN_get hc), rl, _, _, _, rfl, rfl, SqL.of (e2 _ _ hrl), atI_nat hrv, ra, _, _, _, rfl, rfl, SqT.of (e2 _ _ hra), atI_nat (j := 1) rfl, ql, rfl, ⟨_, SqL.of (e2 _ _ hql)⟩, for_list (K := K) (a := ql) (xs := svs) (fun j σ H' => ∃ (u1 u2 : List Nat) (v6 : Option V), σ = [some (.ref rl), some (.ref yl), some (.ref kl), some (.ref sl), some (vN i), some (vN (i + 1 + u1.length)), v6] ∧ H' = H2 ∧ u = u1 ++ u2 ∧ Go g NoHole [.non a] (y.take i ++ c :: u1) (q.rhs.drop j ++ l) ∧ Go g NoHole (q.rhs.drop j) u2 [])
          ⟨[], u, _, rfl, rfl, rfl, g1.trans (.node hq hlh .nil), g2⟩ (fun j σ H' _ ⟨_, _, _, _, e, _⟩ => by rw [e]; exact SqL.of (e2 _ _ hql)) ?_ ?_⟩
        · rintro j v' σ H3 hj ⟨u1, u2, v6, rfl, rfl, hu, k1, k2⟩
          have hjl : j < q.rhs.length := by rw [← hsv]; exact (List.getElem?_eq_some_iff.mp hj).1
          rw [List.drop_eq_getElem_cons hjl] at k1 k2
          have hyy : y = (y.take i ++ c :: u1) ++ (u2 ++ v) := by rw [List.append_assoc, List.cons_append, ← List.append_assoc u1, ← hu]; exact hy0
          obtain ⟨w1, w2, hw, hne, p1, p2, p3, p4⟩ := TR.stops_row ok hgo (i := i) hyy k1 k2
          have hpl : (y.take i ++ c :: u1).length = i + 1 + u1.length := by rw [List.length_append, htl, List.length_cons]; omega
          have hw1 : 0 < w1.length := List.length_pos_iff.mpr hne
          have hul := congrArg List.length hu
          have hwl := congrArg List.length hw
          rw [List.length_append] at hul hwl
          rw [hpl] at p4
          refine ⟨_, rfl, _, rfl, sl, _, _, _, rfl, rfl, SqL.of hs2, atI_nat (hxs (i + 1 + u1.length) (by omega) (by omega)), u1 ++ w1, w2, some v', ?_, rfl, by rw [List.append_assoc, ← hw]; exact hu, ?_, p2⟩
          · rw [p4, List.length_append, ← Nat.add_assoc]; rfl
          · rw [show y.take i ++ c :: (u1 ++ w1) = y.take i ++ c :: u1 ++ w1 by simp]; exact p3
        · rintro σ H3 ⟨u1, u2, v6, rfl, rfl, hu, k1, k2⟩
          rw [hsv, List.drop_length] at k2
          cases k2
          rw [List.append_nil] at hu
          have := hlast
          rw [hst, show i + (c :: u).length = i + 1 + u1.length by rw [hu, List.length_cons]; omega] at this
          exact this _ _ fun σ H' h => h
    · rintro σ H2 ⟨xs, v4, v5, v6, rfl, e2, hs2, hxl, hxs⟩
      refine ⟨_, rfl, ret _ sl e2 hslH ?_⟩
      rw [hs2]
      congr 2
      refine List.ext_getElem? fun i => ?_
      by_cases hi : i < y.length
      · rw [hxs i (by rw [List.length_map]; omega) hi, List.getElem?_map, stopRow_get hi]; rfl
      · rw [List.getElem?_eq_none (by omega), List.getElem?_eq_none (by rw [List.length_map, stopRow_len]; omega)]
end
end TW
set_option Elab.async false
set_option linter.all false
set_option maxRecDepth 100000
set_option maxHeartbeats 4000000
namespace TW
open PySem PySem.Spec PyProof.Rows L2
open Vaglrc (Sym Rule Grammar Node)
open TR (GOk Go NoHole kinds kindsT stopN)
/-- a class that is made by its name -/
structure MkC (P : Program) (w : World) (K : PySem.W.Frag) (mg : Str → Option Value) (base : Heap) (CX : CXT) (k : Nat) (x : Str) (C : Addr) (ps : List Str) (sp : Sp) : Prop where
  ex : ∃ (f : Addr) (fd : FuncData), Mk K C f ∧ mg x = some (.ref C) ∧ Binds K fd ps [] ∧ FnOk P w K mg base CX k f fd ps sp
section
variable {X : Cx}
theorem pe_mkc {CX : CXT} {k : Nat} {x : Str} {C : Addr} {ps : List Str} {sp : Sp} {E : XK} {p pos : Pos} {e : Expr} {es : List Expr} {t : TA} (M : MkC X.prog X.w X.K X.mg X.base CX k x C ps sp) (hr : Room (k + 1) X.A) (hx : Passes CX X E) (ha : PA X (e :: es) t) (hg : Gl X x := by rfl)
    (hdb : (x == ("__debug__" : Str)) = false := by decide) (he : starEach (e :: es) X.env = (false, eval e X.env) :: starEach es X.env := by rfl) (hpl : (backTo pos (starEach es X.env)).any (·.1) = false := by rfl) :
    PE X (.Call (.Name x p) (e :: es) [] pos) (tMake C sp [] E t) := by
  obtain ⟨f, fd, hm, hk, hb, F⟩ := M.ex
  exact pe_make hm F hr hg hk hb .nil hx ha hdb he hpl
theorem pe_mkc0 {CX : CXT} {k : Nat} {x : Str} {C : Addr} {ps : List Str} {sp : Sp} {E : XK} {p pos : Pos} (M : MkC X.prog X.w X.K X.mg X.base CX k x C ps sp) (hr : Room (k + 1) X.A) (hx : Passes CX X E) (hg : Gl X x := by rfl)
    (hdb : (x == ("__debug__" : Str)) = false := by decide) : PE X (.Call (.Name x p) [] [] pos) (tMake C sp [] E tNil) := by
  obtain ⟨f, fd, hm, hk, hb, F⟩ := M.ex
  exact pe_make0 hm F hr hg hk hb .nil hx hdb
end
/-- the class Laid -/
structure LCls (K : PySem.W.Frag) (L : Addr) : Prop where
  cls : Cls K L
  numbers : NoAttr K L "numbers"
  nodes : NoAttr K L "nodes"
  stops : NoAttr K L "stops"
/-- a term laid out -/
def LaidV (L : Addr) (H : Hp) (v : V) (g : Grammar) (a : Nat) (y : List Nat) : Prop := ∃ b dx fs nv kv sv, v = .ref b ∧ H b = some (.ins L dx fs) ∧ fs.lookup ("numbers" : Str) = some nv ∧ fs.lookup ("nodes" : Str) = some kv ∧ fs.lookup ("stops" : Str) = some sv ∧
  NatsV H nv y ∧ BoolsV H kv (kindsT g a y) ∧ NatsV H sv (stopRow g a y)
theorem LaidV.mono {L : Addr} {H H' : Hp} {v : V} {g : Grammar} {a : Nat} {y : List Nat} (e : Ex H H') (h : LaidV L H v g a y) : LaidV L H' v g a y := by
  obtain ⟨b, dx, fs, nv, kv, sv, q, h1, h2, h3, h4, h5, h6, h7⟩ := h
  exact ⟨b, dx, fs, nv, kv, sv, q, e _ _ h1, h2, h3, h4, h5.mono e, h6.mono e, h7.mono e⟩
section
variable {P : Program} {w : World} {K : PySem.W.Frag} {mg : Str → Option Value} {base : Heap} {L : Addr}
def sp_Laid_init (L : Addr) : Sp := fun vs H Q _ => ∃ (x dx : Addr) (nv kv sv : V), vs = [.ref x, nv, kv, sv] ∧ H x = some (.ins L dx []) ∧ ∀ H' fs, Ex (del H x) H' → H' x = some (.ins L dx fs) → fs.lookup ("numbers" : Str) = some nv → fs.lookup ("nodes" : Str) = some kv → fs.lookup ("stops" : Str) = some sv → Q .non H'
abbrev s_Laid_init : Stmt := inClass (topS 47) 0
/-- 0 self, 1 numbers, 2 nodes, 3 stops -/
theorem sc_Laid_init : FnScope ["self", "numbers", "nodes", "stops"] ["self", "numbers", "nodes", "stops"] (defScope s_Laid_init) := ⟨rfl, rfl, rfl, by decide +kernel, rfl, by decide +kernel, by decide +kernel⟩
theorem ok_Laid_init {f : Addr} {fd : FuncData} (F : Fun K "__init__" "Laid.__init__" s_Laid_init f fd) (T : Glob mg) (Lc : LCls K L) : FnOk P w K mg base CX0 1 f fd ["self", "numbers", "nodes", "stops"] (sp_Laid_init L) := by
  refine F.ok sc_Laid_init (fun vs H Q E h => ?_) (fun cdv A outer s H vs Q E hr h => ?_)
  · obtain ⟨_, _, _, _, _, rfl, _⟩ := h
    rfl
  · obtain ⟨x, dx, nv, kv, sv, rfl, hx, ret⟩ := h
    refine ⟨_, (pss_cons (ps_fld (pv 0) (pv 1) rfl)
    (pss_cons (ps_fld (pv 0) (pv 2) rfl)
    (pss_one (ps_fld (pv 0) (pv 3) rfl)))), ?_⟩
    refine ⟨_, rfl, _, rfl, x, L, dx, [], rfl, hx, Lc.cls, Lc.numbers, by decide, _, rfl, _, rfl, x, L, dx, _, rfl, upd_same, Lc.cls, Lc.nodes, (show 1 < 1000 by decide), _, rfl, _, rfl, x, L, dx, _, rfl, upd_same, Lc.cls, Lc.stops, (show 2 < 1000 by decide), ?_⟩
    exact ret _ _ (fun b u q => by
      by_cases e : b = x
      · subst e; rw [del_same] at q; cases q
      · rw [del_ne e] at q; rw [upd_ne e, upd_ne e, upd_ne e]; exact q) upd_same rfl rfl rfl
def sp_laid_out (L : Addr) : Sp := fun vs H Q _ => ∃ (rw yv : V) (g : Grammar) (y : List Nat) (a : Nat), vs = [rw, yv] ∧ RulesV H rw (own g) ∧ GOk g ∧ NatsV H yv y ∧ Go g NoHole [.non a] y [] ∧ y.length ≤ 400 ∧ Ret H Q fun v H' => LaidV L H' v g a y
abbrev s_laid_out : Stmt := topS 50
/-- 0 rules, 1 numbers, 2 nodes -/
theorem sc_laid_out : FnScope ["rules", "numbers", "nodes"] ["rules", "numbers"] (defScope s_laid_out) := ⟨rfl, rfl, rfl, by decide +kernel, rfl, by decide +kernel, by decide +kernel⟩
theorem ok_laid_out {f : Addr} {fd : FuncData} (F : Fun K "laid_out" "laid_out" s_laid_out f fd) (T : Glob mg) (F_nodes_of : FnC P w K mg base CX0 1 "nodes_of" ["rules", "numbers"] sp_nodes_of) (F_stops_of : FnC P w K mg base CX0 1 "stops_of" ["rules", "numbers", "nodes"] sp_stops_of)
    (M_Laid : MkC P w K mg base CX0 1 "Laid" L ["self", "numbers", "nodes", "stops"] (sp_Laid_init L)) : FnOk P w K mg base CX0 3 f fd ["rules", "numbers"] (sp_laid_out L) := by
  refine F.ok sc_laid_out (fun vs H Q E h => ?_) (fun cdv A outer s H vs Q E hr h => ?_)
  · obtain ⟨_, _, _, _, _, rfl, _⟩ := h
    rfl
  · obtain ⟨rw, yv, g, y, a, rfl, hR, ok, hy, hgo, hy400, ret⟩ := h
    refine ⟨_, (pss_cons (ps_set (i := 2) sc_laid_out.nd rfl (Or.inl rfl) (pe_fc F_nodes_of (hr.mono (by decide)) pass0 (pa_cons (pv 0) (pa_cons (pv 1) pa_nil))))
    (pss_one (ps_ret (pe_mkc M_Laid (hr.mono (by decide)) pass0 (pa_cons (pv 1) (pa_cons (pv 2) (pa_cons (pe_fc F_stops_of (hr.mono (by decide)) pass0 (pa_cons (pv 0) (pa_cons (pv 1) (pa_cons (pv 2) pa_nil)))) pa_nil))))))), ?_⟩
    refine ⟨_, rfl, _, rfl, rw, yv, g, y, a, rfl, hR, ok, hy, hgo, hy400, fun H1 kl e1 hkl hk1 => ?_⟩
    refine ⟨_, rfl, _, rfl, _, rfl, _, rfl, _, rfl, rw, yv, .ref kl, g, y, a, rfl, hR.mono e1, ok, hy.mono e1, ⟨kl, rfl, hk1⟩, hgo, hy400, fun H2 sl e2 hsl hs2 => ?_⟩
    intro x dx hx hdx hne
    have e3 : Ex H2 (upd (upd H2 dx (.own x)) x (.ins L dx [])) := (Ex.new hdx).mut hx
    refine ⟨x, dx, yv, .ref kl, .ref sl, rfl, upd_same, fun H3 fs e4 h3 l1 l2 l3 => ⟨rfl, ?_⟩⟩
    have e5 : Ex H2 (del (upd (upd H2 dx (.own x)) x (.ins L dx [])) x) := ex_del e3 hx
    have e6 : Ex H2 H3 := e5.tr e4
    exact ret _ _ ((e1.tr e2).tr e6) ⟨x, dx, fs, yv, _, _, rfl, h3, l1, l2, l3, hy.mono ((e1.tr e2).tr e6), ⟨kl, rfl, e6 _ _ (e2 _ _ hk1)⟩, ⟨sl, rfl, e6 _ _ hs2⟩⟩
/-- the bytes of a term laid out -/
def sp_bytes_of (L : Addr) : Sp := fun vs H Q _ => ∃ (lv : V) (g : Grammar) (y : List Nat) (a : Nat), vs = [lv] ∧ LaidV L H lv g a y ∧ Go g NoHole [.non a] y [] ∧ y.length ≤ 400 ∧ ∀ H' l, Ex H H' → H l = none → H' l = some (.lst ((TR.bytesOf g [.non a] y).map vN)) → Q (.ref l) H'
abbrev s_bytes_of : Stmt := topS 51
/-- 0 laid, 1 number, 2 node -/
theorem sc_bytes_of : FnScope ["laid", "number", "node"] ["laid"] (defScope s_bytes_of) := ⟨rfl, rfl, rfl, by decide +kernel, rfl, by decide +kernel, by decide +kernel⟩
theorem ok_bytes_of {f : Addr} {fd : FuncData} (F : Fun K "bytes_of" "bytes_of" s_bytes_of f fd) (T : Glob mg) (Lc : LCls K L) : FnOk P w K mg base CX0 1 f fd ["laid"] (sp_bytes_of L) := by
  refine F.ok sc_bytes_of (fun vs H Q E h => ?_) (fun cdv A outer s H vs Q E hr h => ?_)
  · obtain ⟨_, _, _, _, rfl, _⟩ := h
    rfl
  · obtain ⟨lv, g, y, a, rfl, ⟨b, dx, fs, nv, kv, sv, rfl, hb, l1, l2, l3, ⟨yl, rfl, hyl⟩, ⟨kl, rfl, hkl⟩, _⟩, hgo, hy400, ret⟩ := h
    have hkn : (kindsT g a y).length = y.length := TR.kinds_length hgo
    refine ⟨_, (pss_one (ps_ret (pe_lc (own := [("number", 1), ("node", 2)]) (g := (gTup K 2 (gCons (gName 1) (gCons (gName 2) gNil)))) (tt := (tNot (tB (tVar 2)))) (te := (tVar 1)) rfl sc_bytes_of.nd (pi_zip (by rfl) T.zip (pa_cons (pe_fld (pv 0) rfl) (pa_cons (pe_fld (pv 0) rfl) pa_nil))) (blkOk_by (own := [("number", 1), ("node", 2)]) (N := ["laid", "number", "node"]) (sc := defScope s_bytes_of) (by decide +kernel)) (fun _ _ _ _ _ => by exact (pg_tup rfl (pgs_cons (pg_name (i := 1) sc_bytes_of.nd rfl (Or.inl rfl)) (pgs_cons (pg_name (i := 2) sc_bytes_of.nd rfl (Or.inl rfl)) pgs_nil)))) (fun _ _ _ _ _ => by exact (pts_one (pt_not (pt_val (pv 2))))) (fun _ _ _ _ _ => by exact (pv 1))))), ?_⟩
    refine ⟨_, rfl, b, L, dx, fs, _, rfl, hb, Lc.cls, Lc.numbers, l1, _, rfl, b, L, dx, fs, _, rfl, hb, Lc.cls, Lc.nodes, l2, yl, kl, _, _, rfl, SqL.of hyl, SqL.of hkl, fun D hD => ?_⟩
    refine lc_it (walk_zip (n := y.length) (xs := y.map vN) (ys := (kindsT g a y).map V.bl) (by rw [List.length_map, List.length_map]; omega)) (fun i H' => Ex H H' ∧ H' D = some (.lst (((((y.zip (kindsT g a y)).take i).filter fun p => !p.2).map (·.1)).map vN))) ⟨Ex.new hD, upd_same⟩ (fun i H' _ p => ⟨SqL.of (p.1 _ _ hyl), SqL.of (p.1 _ _ hkl)⟩) ?_ ?_
    · rintro i v H1 H2 hi ⟨e1, hD1⟩ ⟨T', x1, x2, rfl, hT, rfl, hx1, hx2⟩
      obtain ⟨c, hc, rfl⟩ := get_map_vN hx1
      have hx2 : ((kindsT g a y).map V.bl)[i]? = some x2 := hx2
      rw [List.getElem?_map] at hx2
      obtain ⟨kb, hkb, rfl⟩ := Option.map_eq_some_iff.mp hx2
      have hz : (y.zip (kindsT g a y))[i]? = some (c, kb) := by rw [List.getElem?_zip_eq_some]; exact ⟨hc, hkb⟩
      have htk : (y.zip (kindsT g a y)).take (i + 1) = (y.zip (kindsT g a y)).take i ++ [(c, kb)] := by rw [List.take_succ, hz]; rfl
      have e2 : Ex H1 (upd H1 T' (.tup [vN c, V.bl kb])) := Ex.new hT
      refine ⟨T', _, rfl, SqT.of upd_same, rfl, _, _, rfl, _, _, rfl, rfl, ?_⟩
      refine ⟨rfl, _, rfl, kb, rfl, ?_⟩
      cases kb with
      | true =>
        refine iteF ⟨e1.tr e2, ?_⟩
        rw [e2 _ _ hD1, htk, List.filter_append]
        simp
      | false =>
        refine iteT ⟨_, rfl, _, e2 _ _ hD1, small_lt ?_, (e1.tr e2).mut hD, ?_⟩
        · have h1 := List.length_filter_le (fun p : Nat × Bool => !p.2) ((y.zip (kindsT g a y)).take i)
          rw [List.length_take, List.length_zip] at h1
          rw [List.length_map, List.length_map]
          omega
        · rw [upd_same, htk, List.filter_append, List.map_append, List.map_append]; rfl
    · rintro H1 ⟨e1, hD1⟩
      rw [List.take_of_length_le (by rw [List.length_zip]; omega)] at hD1
      exact ret _ D e1 hD hD1
/-- the holes of a match, each with what it stands for -/
def HoleV (H : Hp) (v : V) (p : Nat × List Nat) : Prop := ∃ a q, v = .ref a ∧ H a = some (.tup [vN p.1, q]) ∧ NatsV H q p.2
theorem HoleV.mono {H H' : Hp} {v : V} {p : Nat × List Nat} (e : Ex H H') (h : HoleV H v p) : HoleV H' v p := by
  obtain ⟨a, q, h1, h2, h3⟩ := h
  exact ⟨a, q, h1, e _ _ h2, h3.mono e⟩
abbrev BindV : Hp → V → List (Nat × List Nat) → Prop := ListV HoleV
def sp_part_of : Sp := fun vs H Q _ => ∃ (hv : V) (b : List (Nat × List Nat)) (k : Nat), vs = [hv, vN k] ∧ BindV H hv b ∧ (Vaglrj.bound b k = none → Q .non H) ∧ ∀ u p, Vaglrj.bound b k = some u → NatsV H p u → Q p H
abbrev s_part_of : Stmt := topS 52
/-- 0 holes, 1 number, 2 hole, 3 part -/
theorem sc_part_of : FnScope ["holes", "number", "hole", "part"] ["holes", "number"] (defScope s_part_of) := ⟨rfl, rfl, rfl, by decide +kernel, rfl, by decide +kernel, by decide +kernel⟩
theorem ok_part_of {f : Addr} {fd : FuncData} (F : Fun K "part_of" "part_of" s_part_of f fd) (T : Glob mg) : FnOk P w K mg base CX0 1 f fd ["holes", "number"] sp_part_of := by
  refine F.ok sc_part_of (fun vs H Q E h => ?_) (fun cdv A outer s H vs Q E hr h => ?_)
  · obtain ⟨_, _, _, rfl, _⟩ := h
    rfl
  · obtain ⟨hv, b, k, rfl, ⟨hl, vs, rfl, hhl, hpr⟩, ret0, ret1⟩ := h
    refine ⟨_, (pss_cons (ps_for PassesOwn.never rfl (pi_list (pv 0)) (pg_tup rfl (pgs_cons (pg_name (i := 2) sc_part_of.nd rfl (Or.inl rfl)) (pgs_cons (pg_name (i := 3) sc_part_of.nd rfl (Or.inl rfl)) pgs_nil)))
    (pss_one (ps_if (pt_cmpR op_eq (pv 2) (pv 1) (nomark _))
    (pss_one (ps_ret (pv 3)))
    pss_nil)))
    (pss_one (ps_ret pe_non))), ?_⟩
    refine ⟨_, rfl, hl, rfl, ⟨_, SqL.of hhl⟩, for_list (K := K) (a := hl) (xs := vs) (fun i σ H' => H' = H ∧ (∃ v2 v3, σ = [some (.ref hl), some (vN k), v2, v3]) ∧ ∀ p ∈ b.take i, (p.1 == k) = false) ⟨rfl, ⟨none, none, rfl⟩, fun p hp => by simp at hp⟩ (fun i σ H' _ p => by rw [p.1]; exact SqL.of hhl) ?_ ?_⟩
    · rintro i v σ H1 hi ⟨rfl, ⟨v2, v3, rfl⟩, hno⟩
      obtain ⟨⟨hn, u⟩, hb, a, q, rfl, ha, hq⟩ := Paired.at' hpr hi
      have htk : b.take (i + 1) = b.take i ++ [(hn, u)] := by rw [List.take_succ, hb]; rfl
      refine ⟨a, _, rfl, SqT.of ha, rfl, _, _, rfl, _, _, rfl, rfl, ?_⟩
      refine ⟨_, rfl, _, rfl, rfl, _, rfl, ?_⟩
      have hq' : decide (vN hn = vN k) = (hn == k) := by rw [vN, vN, int_eq]; rfl
      by_cases e : hn = k
      · subst e
        rw [decide_eq_true rfl]
        refine iteT ⟨_, rfl, ret1 u _ ?_ hq⟩
        unfold Vaglrj.bound
        have : b.find? (fun p => p.1 == hn) = some (hn, u) := by
          rw [List.find?_eq_some_iff_getElem]
          have hil := (List.getElem?_eq_some_iff.mp hb).1
          refine ⟨by simp, i, hil, (List.getElem?_eq_some_iff.mp hb).2, fun j hj => ?_⟩
          have hjb : b[j] ∈ b.take i := by
            rw [List.mem_take_iff_getElem]
            exact ⟨j, by omega, rfl⟩
          rw [hno _ hjb]; rfl
        rw [this]; rfl
      · rw [hq', beq_false_of_ne e]
        refine iteF ⟨rfl, ⟨_, _, rfl⟩, fun p hp => ?_⟩
        rw [htk] at hp
        rcases List.mem_append.mp hp with h | h
        · exact hno p h
        · rw [List.mem_singleton.mp h]; exact beq_false_of_ne e
    · rintro σ H1 ⟨rfl, ⟨v2, v3, rfl⟩, hno⟩
      refine ret0 ?_
      rw [Paired.len hpr, List.take_length] at hno
      unfold Vaglrj.bound
      rw [List.find?_eq_none.mpr fun p hp => by rw [hno p hp]; exact Bool.false_ne_true]; rfl
end
end TW
set_option Elab.async false
set_option linter.all false
set_option maxRecDepth 100000
set_option maxHeartbeats 4000000
namespace TW
open PySem PySem.Spec PyProof.Rows L2
open Vaglrc (Sym Rule Grammar Node)
open TR (GOk Go NoHole kinds kindsT stopN ROk)
theorem dp_natsA {K : PySem.W.Frag} {H : Hp} : ∀ (ns : List Nat), DpAll K H (ns.map vN) ((ns.map fun (n : Nat) => (n : Int)).map PyData.int)
  | [] => .nil
  | n :: ns => .cons (.int _) (dp_natsA ns)
theorem dp_nats {K : PySem.W.Frag} {H : Hp} {l : Addr} {ns : List Nat} (h : H l = some (.lst (ns.map vN))) : Dp K H (.ref l) (.list ((ns.map fun (n : Nat) => (n : Int)).map PyData.int)) := .lst (SqL.of h) (dp_natsA ns)
theorem eqv_nats : ∀ (a b : List Nat), PyData.eqvAll ((a.map fun (n : Nat) => (n : Int)).map PyData.int) ((b.map fun (n : Nat) => (n : Int)).map PyData.int) = decide (a = b)
  | [], [] => by simp [PyData.eqvAll]
  | [], _ :: _ => by simp [PyData.eqvAll]
  | _ :: _, [] => by simp [PyData.eqvAll]
  | x :: a, y :: b => by
    simp only [List.map_cons, PyData.eqvAll, PyData.eqv, eqv_nats a b]
    by_cases h : x = y
    · subst h; simp
    · rw [show ((x : Int) == (y : Int)) = false from beq_false_of_ne fun e => h (Int.ofNat_inj.mp e)]
      simp [h]
theorem eqv_natl {a b : List Nat} : PyData.eqv (.list ((a.map fun (n : Nat) => (n : Int)).map PyData.int)) (.list ((b.map fun (n : Nat) => (n : Int)).map PyData.int)) = decide (a = b) := by
  simp only [PyData.eqv, eqv_nats]
theorem turn2 {g : Grammar} {S : Nat → Nat → Prop} (ok : GOk g) {c : Nat} {p : List Nat} {l l' : List Sym} {y : List Nat} (h1 : Go g S l (c :: p) []) (hr : ROk l) (h2 : Go g NoHole (l ++ l') (c :: y) []) (hc : c < 1000) :
    ∃ l2, Go g S l2 p [] ∧ ROk l2 ∧ Go g NoHole (l2 ++ l') y [] ∧ Go g NoHole (l ++ l') [c] (l2 ++ l') := by
  cases l with
  | nil => cases h1
  | cons s l =>
    have h2' : Go g NoHole (s :: (l ++ l')) (c :: y) [] := h2
    cases s with
    | range lo hi =>
      cases h1 with
      | rng h3 h4 h5 =>
        cases h2' with
        | rng h6 h7 h8 => exact ⟨l, h5, fun lo hi hm => hr lo hi (List.mem_cons_of_mem _ hm), h8, .rng h3 h4 .nil⟩
    | non a =>
      rcases h1.inv_non with ⟨k, ek, h3, h5⟩ | ⟨q, h3, h4, h5⟩
      · omega
      · rcases h2'.inv_non with ⟨_, _, hf, _⟩ | ⟨q', h6, h7, h8⟩
        · exact hf.elim
        · rw [h3] at h6; cases h6
          refine ⟨q.rhs ++ l, h5, TR.rok_rule ok h3 fun lo hi hm => hr lo hi (List.mem_cons_of_mem _ hm), by rw [List.append_assoc]; exact h8, ?_⟩
          rw [List.append_assoc]
          exact .node h3 h4 .nil
/-- .. none of them too long -/
def MatV (H : Hp) (v : V) (b : List (Nat × List Nat)) : Prop := BindV H v b ∧ ∀ q ∈ b, q.2.length ≤ 400
theorem MatV.mono {H H' : Hp} {v : V} {b : List (Nat × List Nat)} (e : Ex H H') (h : MatV H v b) : MatV H' v b := ⟨ListV.mono (P := HoleV) (fun _ _ _ _ => HoleV.mono) e h.1, h.2⟩
section
variable {P : Program} {w : World} {K : PySem.W.Frag} {mg : Str → Option Value} {base : Heap} {L : Addr}
def sp_matched (L : Addr) : Sp := fun vs H Q _ => ∃ (pv lv : V) (g : Grammar) (p y : List Nat) (a i : Nat) (S : Nat → Nat → Prop) (l l' : List Sym), vs = [pv, lv, vN i] ∧ NatsV H pv p ∧ LaidV L H lv g a y ∧ GOk g ∧ Go g NoHole [.non a] y [] ∧ y.length ≤ 400 ∧ p.length ≤ 400 ∧
  Go g NoHole [.non a] (y.take i) (l ++ l') ∧ Go g NoHole (l ++ l') (y.drop i) [] ∧ Go g S l p [] ∧ ROk l ∧ i ≤ y.length ∧ (Vaglrj.matchRow g p (y.drop i) [] = none → ∀ H', Ex H H' → Q .non H') ∧ ∀ b r H' v, Vaglrj.matchRow g p (y.drop i) [] = some (b, r) → Ex H H' → MatV H' v b → Q v H'
abbrev s_matched : Stmt := topS 53
/-- 0 left, 1 laid, 2 at, 3 found, 4 place, 5 number, 6 stop, 7 part, 8 before -/
theorem sc_matched : FnScope ["left", "laid", "at", "found", "place", "number", "stop", "part", "before"] ["left", "laid", "at"] (defScope s_matched) := ⟨rfl, rfl, rfl, by decide +kernel, rfl, by decide +kernel, by decide +kernel⟩
theorem ok_matched {f : Addr} {fd : FuncData} (F : Fun K "matched" "matched" s_matched f fd) (T : Glob mg) (Lc : LCls K L) (F_part_of : FnC P w K mg base CX0 1 "part_of" ["holes", "number"] sp_part_of) : FnOk P w K mg base CX0 2 f fd ["left", "laid", "at"] (sp_matched L) := by
  refine F.ok sc_matched (fun vs H Q E h => ?_) (fun cdv A outer s H vs Q E hr h => ?_)
  · obtain ⟨_, _, _, _, _, _, _, _, _, _, rfl, _⟩ := h
    rfl
  · obtain ⟨pv, lv, g, p, y, a, i, S, l, l', rfl, ⟨pl, rfl, hpl⟩, ⟨lb, dx, fs, nv, kv, sv, rfl, hb, l1, l2, l3, ⟨yl, rfl, hyl⟩, ⟨kl, rfl, hkl⟩, ⟨sl, rfl, hsl⟩⟩, ok, hgo, hy400, hp400, hg1, hg2, hg3, hrk, hiy, ret0, ret1⟩ := h
    refine ⟨_, (pss_cons (ps_set (i := 3) sc_matched.nd rfl (Or.inl rfl) (pe_lst pa_nil))
    (pss_cons (ps_set (i := 4) sc_matched.nd rfl (Or.inl rfl) (pv 2))
    (pss_cons (ps_for PassesOwn.never rfl (pi_list (pv 0)) (pg_name (i := 5) sc_matched.nd rfl (Or.inl rfl))
    (pss_cons (ps_if (pt_cmpR op_ge (pv 4) (pe_callB call_len_seq (by rfl) T.len (by decide +kernel) (pa_cons (pe_fld (pv 1) rfl) pa_nil)) (nomark _))
    (pss_one (ps_ret pe_non))
    pss_nil)
    (pss_cons (ps_set (i := 6) sc_matched.nd rfl (Or.inl rfl) (pe_op op_add (pv 4) pe_int))
    (pss_cons (ps_if (pt_cmpR op_ge (pv 5) (pe_gi T.FIRST_HOLE) (nomark _))
    (pss_cons (ps_set (i := 6) sc_matched.nd rfl (Or.inl rfl) (pe_ix ix_list (pe_fld (pv 1) rfl) (pv 4) (fun _ _ => rfl)))
    (pss_cons (ps_set (i := 7) sc_matched.nd rfl (Or.inl rfl) (pe_slice sl_list (pe_fld (pv 1) rfl) (po_some (pv 4)) (po_some (pv 6))))
    (pss_cons (ps_set (i := 8) sc_matched.nd rfl (Or.inl rfl) (pe_fc F_part_of (hr.mono (by decide)) pass0 (pa_cons (pv 3) (pa_cons (pe_op op_sub (pv 5) (pe_gi T.FIRST_HOLE)) pa_nil))))
    (pss_one (ps_if (pt_cmpR op_isN (pv 8) pe_non (nomark _))
    (pss_one (ps_expr (pe_bm PySem.F.plainAttrs_list PySem.F.slot_list_append PySem.F.type_list_append mt_append (pv 3) (pa_cons (pe_tup (pa_cons (pe_op op_sub (pv 5) (pe_gi T.FIRST_HOLE)) (pa_cons (pv 7) pa_nil))) pa_nil))))
    (pss_one (ps_if (pt_cmpR (op_neD hr.units) (pv 8) (pv 7) (nomark _))
    (pss_one (ps_ret pe_non))
    pss_nil)))))))
    (pss_one (ps_if (pt_cmpR op_ne (pv 5) (pe_ix ix_list (pe_fld (pv 1) rfl) (pv 4) (fun _ _ => rfl)) (nomark _))
    (pss_one (ps_ret pe_non))
    pss_nil)))
    (pss_one (ps_set (i := 4) sc_matched.nd rfl (Or.inl rfl) (pv 6)))))))
    (pss_one (ps_ret (pv 3)))))), ?_⟩
    refine ⟨nil_line, fun fl hfl => ?_⟩
    refine ⟨_, rfl, _, rfl, pl, rfl, ⟨_, SqL.of ((Ex.new (o := .lst []) hfl) _ _ hpl)⟩, for_list (K := K) (a := pl) (xs := p.map vN) (fun j σ H' => ∃ (at_ : Nat) (b : List (Nat × List Nat)) (m : List Sym) (v5 v6 v7 v8 : Option V), σ = [some (.ref pl), some (.ref lb), some (vN i), some (.ref fl), some (vN at_), v5, v6, v7, v8] ∧ Ex H H' ∧ MList HoleV H' fl b ∧ at_ ≤ y.length ∧ (b.length ≤ j ∧ ∀ q ∈ b, q.2.length ≤ 400) ∧
      Vaglrj.matchRow g p (y.drop i) [] = Vaglrj.matchRow g (p.drop j) (y.drop at_) b ∧ Go g NoHole [.non a] (y.take at_) (m ++ l') ∧ Go g NoHole (m ++ l') (y.drop at_) [] ∧ Go g S m (p.drop j) [] ∧ ROk m)
      ⟨i, [], l, none, none, none, none, rfl, Ex.new hfl, MList.new hfl, hiy, ⟨Nat.le_refl _, fun q hq => by simp at hq⟩, rfl, hg1, hg2, hg3, hrk⟩ (fun j σ H' _ ⟨_, _, _, _, _, _, _, _, e, _⟩ => SqL.of (e _ _ hpl)) ?_ ?_⟩
    · rintro j v σ H1 hj ⟨at_, b, m, v5, v6, v7, v8, rfl, e1, ⟨bs, hbs, hbp⟩, hay, ⟨hbj, hb4⟩, hmr, k1, k2, k3, k4⟩
      obtain ⟨c, hc, rfl⟩ := get_map_vN hj
      have hjl := (List.getElem?_eq_some_iff.mp hc).1
      have hpd : p.drop j = c :: p.drop (j + 1) := by
        rw [List.drop_eq_getElem_cons hjl]
        rw [List.getElem?_eq_getElem hjl] at hc
        rw [Option.some.inj hc]
      rw [hpd] at k3 hmr
      have hne : y.drop at_ ≠ [] := by
        rcases TR.turn_cases ok k3 k4 k2 with ⟨a', k, m2, u, v, rfl, hS, rfl, g1, ey, g2, g3⟩ | ⟨hc1, d, y', ey, hd⟩
        · rw [ey]; intro e; exact g2.ne_nil (List.append_eq_nil_iff.mp e).1
        · rw [ey]; exact List.cons_ne_nil _ _
      have hay' : at_ < y.length := by
        rcases Nat.lt_or_ge at_ y.length with h | h
        · exact h
        · exact absurd (List.drop_eq_nil_of_le h) hne
      have htl : (y.take at_).length = at_ := by rw [List.length_take]; omega
      have hyy : y = y.take at_ ++ y.drop at_ := (List.take_append_drop at_ y).symm
      refine ⟨_, rfl, _, rfl, lb, L, dx, fs, _, rfl, e1 _ _ hb, Lc.cls, Lc.numbers, l1, yl, _, rfl, .inl (SqL.of (e1 _ _ hyl)), _, _, rfl, rfl, _, rfl, ?_⟩
      rw [List.length_map]
      show if decide ((y.length : Int) ≤ (at_ : Int)) = true then _ else _
      rw [int_le, decide_eq_false (by omega)]
      refine iteF ⟨_, rfl, _, _, rfl, rfl, _, rfl, _, _, rfl, rfl, _, rfl, ?_⟩
      show if decide ((1000 : Int) ≤ (c : Int)) = true then _ else _
      rcases TR.turn_cases ok k3 k4 k2 with ⟨a', k, m2, u, v, rfl, hS, rfl, g1, ey, g2, g3⟩ | ⟨hc1, d, y', ey, hd⟩
      · rw [decide_eq_true (by omega)]
        refine iteT ?_
        have hst := TR.stop_eq ok (v := v) k1 g2
        rw [← ey, ← hyy, htl] at hst
        have hk : V.int (((1000 + k : Nat) : Int) - 1000) = vN k := by unfold vN; congr 1; omega
        refine ⟨_, rfl, lb, L, dx, fs, _, rfl, e1 _ _ hb, Lc.cls, Lc.stops, l3, _, rfl, sl, _, _, _, rfl, rfl, SqL.of (e1 _ _ hsl), atI_nat (map_vN_get (stopRow_get hay')), ?_⟩
        refine ⟨_, rfl, lb, L, dx, fs, _, rfl, e1 _ _ hb, Lc.cls, Lc.numbers, l1, _, rfl, _, rfl, _, rfl, _, rfl, yl, _, rfl, SqL.of (e1 _ _ hyl), fun ul hul => ?_⟩
        rw [hst]
        have hcut : cutV (y.map vN) (some ((at_ : Nat) : Int)) (some ((at_ + u.length : Nat) : Int)) = u.map vN := by
          rw [cutV_both (by omega), ← List.map_drop, ey, Nat.add_sub_cancel_left, ← List.map_take, List.take_left]
        have e2 : Ex H1 (upd H1 ul (.lst (cutV (y.map vN) (some ((at_ : Nat) : Int)) (some ((at_ + u.length : Nat) : Int))))) := Ex.new hul
        have hu2 : upd H1 ul (.lst (cutV (y.map vN) (some ((at_ : Nat) : Int)) (some ((at_ + u.length : Nat) : Int)))) ul = some (.lst (u.map vN)) := by rw [upd_same, hcut]
        generalize upd H1 ul (.lst (cutV (y.map vN) (some ((at_ : Nat) : Int)) (some ((at_ + u.length : Nat) : Int)))) = H2 at e2 hu2
        have hlen := congrArg List.length ey
        rw [List.length_drop, List.length_append] at hlen
        have hulf : ul ≠ fl := fun q => by rw [q, hbs] at hul; cases hul
        have htk2 : y.take (at_ + u.length) = y.take at_ ++ u := by
          have h := hyy
          rw [ey, ← List.append_assoc] at h
          rw [h, show at_ + u.length = (y.take at_ ++ u).length by rw [List.length_append, htl]]
          rw [List.take_left]
          rw [← h]
        have hdr2 : y.drop (at_ + u.length) = v := by rw [← List.drop_drop, ey, List.drop_left]
        have hkk : Go g NoHole [.non a] (y.take (at_ + u.length)) (m2 ++ l') := by rw [htk2]; exact k1.trans (g2.frame (m2 ++ l'))
        rw [ey, TR.matchRow_hole, TR.subTerm_eq ok g2] at hmr
        have hrk2 : ROk m2 := fun lo hi hm => k4 lo hi (List.mem_cons_of_mem _ hm)
        refine ⟨_, rfl, _, rfl, _, _, rfl, rfl, .ref fl, b, k, by rw [← hk]; rfl, ⟨fl, bs, rfl, e2 _ _ hbs, Paired.mono2 hbp fun v p q => HoleV.mono (del_ex.tr e2) q⟩, fun hbd => ?_, fun u0 pp hbd hpp => ?_⟩
        · rw [hbd] at hmr
          refine ⟨_, rfl, rfl, _, rfl, ?_⟩
          refine iteT ?_
          refine ⟨_, rfl, .inl ⟨rfl, _, SqL.of (e2 _ _ hbs)⟩, _, rfl, _, _, rfl, rfl, _, rfl, two_line, fun tp htp => ?_⟩
          rw [show (fun (i j : Int) => V.int (i - j)) (((1000 + k : Nat) : Int)) 1000 = vN k from hk]
          have e3 : Ex H2 (upd H2 tp (.tup [vN k, .ref ul])) := Ex.new htp
          have htpf : tp ≠ fl := fun q => by rw [q, e2 _ _ hbs] at htp; cases htp
          refine ⟨fl, bs, _, rfl, rfl, e3 _ _ (e2 _ _ hbs), small_lt ?_, ?_⟩
          · rw [Paired.len hbp]; omega
          · refine ⟨_, rfl, at_ + u.length, b ++ [(k, u)], m2, _, _, _, _, rfl, ((e1.tr e2).tr e3).mut hfl, ?_, by omega, ⟨by rw [List.length_append]; exact Nat.add_le_add_right hbj 1, fun q hq => ?_⟩, ?_, hkk, by rw [hdr2]; exact g3, g1, hrk2⟩
            · refine MList.snoc (e3 _ _ (e2 _ _ hbs)) (Paired.mono2 hbp fun v p q => HoleV.mono (del_mono (e2.tr e3)) q) ⟨tp, .ref ul, rfl, ?_, ul, rfl, ?_⟩
              · rw [del_ne htpf]; exact upd_same
              · rw [del_ne hulf]; exact e3 _ _ hu2
            · rcases List.mem_append.mp hq with h | h
              · exact hb4 q h
              · rw [List.mem_singleton.mp h]; show u.length ≤ 400; omega
            · rw [hdr2]; exact hmr
        · rw [hbd] at hmr
          obtain ⟨ul0, rfl, hu0⟩ := hpp
          refine ⟨_, rfl, rfl, _, rfl, iteF ?_⟩
          refine ⟨_, rfl, _, rfl, _, _, dp_nats hu0, dp_nats hu2, PySem.W.shaped_ints _, PySem.W.shaped_ints _, _, rfl, ?_⟩
          rw [eqv_natl]
          simp only at hmr
          by_cases e : u0 = u
          · rw [decide_eq_true e]
            rw [if_pos (by simpa using e)] at hmr
            refine iteF ?_
            exact ⟨_, rfl, at_ + u.length, b, m2, _, _, _, _, rfl, e1.tr e2, ⟨bs, e2 _ _ hbs, Paired.mono2 hbp fun v p q => HoleV.mono (del_mono e2) q⟩, by omega, ⟨by omega, hb4⟩, by rw [hdr2]; exact hmr, hkk, by rw [hdr2]; exact g3, g1, hrk2⟩
          · rw [decide_eq_false e]
            rw [if_neg (by simpa using e)] at hmr
            exact iteT (ret0 hmr _ (e1.tr e2))
      · rw [decide_eq_false (by omega)]
        refine iteF ?_
        have hyd : y[at_]? = some d := by
          have : y[at_]? = (y.drop at_)[0]? := by rw [List.getElem?_drop]; simp
          rw [this, ey]; rfl
        refine ⟨_, rfl, _, rfl, lb, L, dx, fs, _, rfl, e1 _ _ hb, Lc.cls, Lc.numbers, l1, _, rfl, yl, _, _, _, rfl, rfl, SqL.of (e1 _ _ hyl), atI_nat (map_vN_get hyd), rfl, _, rfl, ?_⟩
        rw [show decide (vN c = vN d) = decide (c = d) from int_eq]
        rw [ey, TR.matchRow_num hc1] at hmr
        by_cases e : c = d
        · rw [decide_eq_true e]
          rw [if_pos e] at hmr
          refine iteF ?_
          subst e
          rw [ey] at k2
          obtain ⟨m2, g1, g2, g3, g4⟩ := turn2 ok k3 k4 k2 hc1
          have htk2 : y.take (at_ + 1) = y.take at_ ++ [c] := by rw [List.take_succ, hyd]; rfl
          have hdr2 : y.drop (at_ + 1) = y' := by rw [← List.drop_drop, ey]; rfl
          exact ⟨_, rfl, at_ + 1, b, m2, _, _, _, _, rfl, e1, ⟨bs, hbs, hbp⟩, hay', ⟨by omega, hb4⟩, by rw [hdr2]; exact hmr, by rw [htk2]; exact k1.trans g4, by rw [hdr2]; exact g3, g1, g2⟩
        · rw [decide_eq_false e]
          rw [if_neg e] at hmr
          exact iteT (ret0 hmr H1 e1)
    · rintro σ H1 ⟨at_, b, m, v5, v6, v7, v8, rfl, e1, hM, hay, ⟨hbj, hb4⟩, hmr, k1, k2, k3, k4⟩
      rw [List.length_map, List.drop_length] at hmr
      exact ⟨_, rfl, ret1 b _ H1 _ hmr e1 ⟨MList.toV (fun _ _ _ _ => HoleV.mono) hM, hb4⟩⟩
end
end TW
set_option Elab.async false
set_option linter.all false
set_option maxRecDepth 100000
set_option maxHeartbeats 4000000
namespace TW
open PySem PySem.Spec PyProof.Rows L2
open Vaglrc (Sym Rule Grammar Node)
open TR (GOk Go NoHole kinds kindsT stopN ROk)
section
variable {P : Program} {w : World} {K : PySem.W.Frag} {mg : Str → Option Value} {base : Heap} {L : Addr}
def sp_filled : Sp := fun vs H Q _ => ∃ (rv hv : V) (r : List Nat) (b : List (Nat × List Nat)), vs = [rv, hv] ∧ NatsV H rv r ∧ r.length ≤ 400 ∧ MatV H hv b ∧ (∀ n ∈ r, 1000 ≤ n → ∃ u, Vaglrj.bound b (n - 1000) = some u) ∧
  ∀ H' l, Ex H H' → H l = none → H' l = some (.lst ((Vaglrj.filled r b).map vN)) → (Vaglrj.filled r b).length ≤ 400 * 400 → Q (.ref l) H'
abbrev s_filled : Stmt := topS 54
/-- 0 right, 1 holes, 2 found, 3 number -/
theorem sc_filled : FnScope ["right", "holes", "found", "number"] ["right", "holes"] (defScope s_filled) := ⟨rfl, rfl, rfl, by decide +kernel, rfl, by decide +kernel, by decide +kernel⟩
theorem ok_filled {f : Addr} {fd : FuncData} (F : Fun K "filled" "filled" s_filled f fd) (T : Glob mg) (F_part_of : FnC P w K mg base CX0 1 "part_of" ["holes", "number"] sp_part_of) : FnOk P w K mg base CX0 2 f fd ["right", "holes"] sp_filled := by
  refine F.ok sc_filled (fun vs H Q E h => ?_) (fun cdv A outer s H vs Q E hr h => ?_)
  · obtain ⟨_, _, _, _, rfl, _⟩ := h
    rfl
  · obtain ⟨rv, hv, r, b, rfl, ⟨rl, rfl, hrl⟩, hr400, hM, hbd, ret⟩ := h
    refine ⟨_, (pss_cons (ps_set (i := 2) sc_filled.nd rfl (Or.inl rfl) (pe_lst pa_nil))
    (pss_cons (ps_for PassesOwn.never rfl (pi_list (pv 0)) (pg_name (i := 3) sc_filled.nd rfl (Or.inl rfl))
    (pss_one (ps_if (pt_cmpR op_ge (pv 3) (pe_gi T.FIRST_HOLE) (nomark _))
    (pss_one (ps_expr (pe_bm PySem.F.plainAttrs_list PySem.F.slot_list_extend PySem.F.type_list_extend mt_extend (pv 2) (pa_cons (pe_fc F_part_of (hr.mono (by decide)) pass0 (pa_cons (pv 1) (pa_cons (pe_op op_sub (pv 3) (pe_gi T.FIRST_HOLE)) pa_nil))) pa_nil))))
    (pss_one (ps_expr (pe_bm PySem.F.plainAttrs_list PySem.F.slot_list_append PySem.F.type_list_append mt_append (pv 2) (pa_cons (pv 3) pa_nil)))))))
    (pss_one (ps_ret (pv 2))))), ?_⟩
    refine ⟨nil_line, fun fl hfl => ?_⟩
    have e0 := Ex.new (o := .lst []) hfl
    refine ⟨_, rfl, rl, rfl, ⟨_, SqL.of (e0 _ _ hrl)⟩, for_list (K := K) (a := rl) (xs := r.map vN) (fun j σ H' => ∃ (v3 : Option V), σ = [some (.ref rl), some hv, some (.ref fl), v3] ∧ Ex H H' ∧ H' fl = some (.lst ((Vaglrj.filled (r.take j) b).map vN)) ∧ (Vaglrj.filled (r.take j) b).length ≤ 400 * j)
      ⟨none, rfl, e0, upd_same, Nat.zero_le _⟩ (fun j σ H' _ ⟨_, _, e, _⟩ => SqL.of (e _ _ hrl)) ?_ ?_⟩
    · rintro j v σ H1 hj ⟨v3, rfl, e1, hf1, hlen⟩
      obtain ⟨c, hc, rfl⟩ := get_map_vN hj
      have hjl := (List.getElem?_eq_some_iff.mp hc).1
      have hcm := List.mem_of_getElem? hc
      have htk : r.take (j + 1) = r.take j ++ [c] := by rw [List.take_succ, hc]; rfl
      have hfa : Vaglrj.filled (r.take (j + 1)) b = Vaglrj.filled (r.take j) b ++ Vaglrj.filled [c] b := by
        rw [htk]; unfold Vaglrj.filled; rw [List.flatMap_append]
      have hf1c : Vaglrj.filled [c] b = if Vaglrj.isHole c then (Vaglrj.bound b (c - 1000)).getD [] else [c] := by
        rw [TR.filled_cons, TR.filled_nil, List.append_nil]; rfl
      refine ⟨_, rfl, _, _, rfl, rfl, _, rfl, ?_⟩
      show if decide ((1000 : Int) ≤ (c : Int)) = true then _ else _
      by_cases h : 1000 ≤ c
      · rw [decide_eq_true (by omega)]
        refine iteT ?_
        obtain ⟨u, hu⟩ := hbd c hcm h
        rw [TR.isHole_big h, if_pos rfl, hu] at hf1c
        have hf1c : Vaglrj.filled [c] b = u := hf1c
        have hu4 : u.length ≤ 400 := hM.2 _ (TR.bound_mem hu)
        refine ⟨_, rfl, .inl ⟨rfl, _, SqL.of hf1⟩, _, rfl, _, rfl, _, _, rfl, rfl, hv, b, c - 1000, ?_, (MatV.mono e1 hM).1, fun hn => ?_, fun u' pp hu' hpp => ?_⟩
        · show [hv, V.int ((c : Int) - 1000)] = [hv, vN (c - 1000)]
          unfold vN
          rw [show ((c : Int) - 1000) = ((c - 1000 : Nat) : Int) by omega]
        · rw [hu] at hn; cases hn
        · rw [hu] at hu'; cases hu'
          obtain ⟨pl, rfl, hpl⟩ := hpp
          refine ⟨fl, pl, _, _, rfl, rfl, hf1, hpl, Nat.le_of_lt (small_lt ?_), _, rfl, e1.mut hfl, ?_, ?_⟩
          · rw [List.length_map, List.length_map]; omega
          · rw [upd_same, hfa, hf1c, List.map_append]
          · rw [hfa, hf1c, List.length_append]; omega
      · rw [decide_eq_false (by omega)]
        refine iteF ?_
        rw [TR.isHole_small (by omega), if_neg Bool.false_ne_true] at hf1c
        refine ⟨_, rfl, .inl ⟨rfl, _, SqL.of hf1⟩, _, rfl, fl, _, _, rfl, rfl, hf1, small_lt ?_, _, rfl, e1.mut hfl, ?_, ?_⟩
        · rw [List.length_map]; omega
        · rw [upd_same, hfa, hf1c, List.map_append]; rfl
        · rw [hfa, hf1c, List.length_append, List.length_singleton]; omega
    · rintro σ H1 ⟨v3, rfl, e1, hf1, hlen⟩
      rw [List.length_map, List.take_length] at hf1 hlen
      exact ⟨_, rfl, ret H1 fl e1 hfl hf1 (by omega)⟩
def sp_holes_at (L : Addr) : Sp := fun vs H Q _ => ∃ (rw lv wv : V) (g : Grammar) (y : List Nat) (a i : Nat) (z : Vaglrj.Rewrite), vs = [rw, lv, wv, vN i] ∧ RulesV H rw (own g) ∧ LaidV L H lv g a y ∧ RwV H wv z ∧ GOk g ∧ Go g NoHole [.non a] y [] ∧ y.length ≤ 400 ∧ TR.RwOk g z ∧ (kindsT g a y)[i]? = some true ∧
  (Vaglrj.matchAt g z y i = none → ∀ H', Ex H H' → Q .non H') ∧ ∀ b r H' v, Vaglrj.matchAt g z y i = some (b, r) → Ex H H' → MatV H' v b → Q v H'
abbrev s_holes_at : Stmt := topS 55
/-- 0 rules, 1 laid, 2 rewriting, 3 at -/
theorem sc_holes_at : FnScope ["rules", "laid", "rewriting", "at"] ["rules", "laid", "rewriting", "at"] (defScope s_holes_at) := ⟨rfl, rfl, rfl, by decide +kernel, rfl, by decide +kernel, by decide +kernel⟩
theorem ok_holes_at {f : Addr} {fd : FuncData} (F : Fun K "holes_at" "holes_at" s_holes_at f fd) (T : Glob mg) (Lc : LCls K L) (F_matched : FnC P w K mg base CX0 2 "matched" ["left", "laid", "at"] (sp_matched L)) : FnOk P w K mg base CX0 3 f fd ["rules", "laid", "rewriting", "at"] (sp_holes_at L) := by
  refine F.ok sc_holes_at (fun vs H Q E h => ?_) (fun cdv A outer s H vs Q E hr h => ?_)
  · obtain ⟨_, _, _, _, _, _, _, _, rfl, _⟩ := h
    rfl
  · obtain ⟨rw, lv, wv, g, y, a, i, z, rfl, ⟨rl, rvs, rfl, hrl, hrp⟩, hL, ⟨wa, wb, wc, rfl, hwa, hwb, hwc⟩, ok, hgo, hy400, hz, hn, ret0, ret1⟩ := h
    have hL0 := hL
    obtain ⟨lb, dx, fs, nv, kv, sv, rfl, hb, l1, l2, l3, ⟨yl, rfl, hyl⟩, _⟩ := hL
    obtain ⟨b, l, q, c, u, v, g1, hc, hq, hlh, hd, g2, g3, g4, hst⟩ := TR.node_at ok hgo hn
    obtain ⟨rv, hrv, ra, sv', rfl, hra, _⟩ := Paired.at hrp (own_get hq)
    have hiy : i < y.length := (List.getElem?_eq_some_iff.mp hc).1
    rw [TR.matchAt_eq hc hq] at ret0 ret1
    refine ⟨_, (pss_cons (ps_if (pt_cmpR op_ne (pe_ix ix_tup (pe_ix ix_list (pv 0) (pe_ix ix_list (pe_fld (pv 1) rfl) (pv 3) (fun _ _ => rfl)) (fun _ _ => rfl)) pe_int (fun _ _ => rfl)) (pe_ix ix_tup (pv 2) pe_int (fun _ _ => rfl)) (nomark _))
    (pss_one (ps_ret pe_non))
    pss_nil)
    (pss_one (ps_ret (pe_fc F_matched (hr.mono (by decide)) pass0 (pa_cons (pe_ix ix_tup (pv 2) pe_int (fun _ _ => rfl)) (pa_cons (pv 1) (pa_cons (pv 3) pa_nil))))))), ?_⟩
    refine ⟨_, rfl, _, rfl, lb, L, dx, fs, _, rfl, hb, Lc.cls, Lc.numbers, l1, _, rfl, yl, _, _, _, rfl, rfl, SqL.of hyl, atI_nat (map_vN_get hc), rl, _, _, _, rfl, rfl, SqL.of hrl, atI_nat hrv, ra, _, _, _, rfl, rfl, SqT.of hra, atI_nat (j := 0) rfl, _, rfl, wa, _, _, _, rfl, rfl, SqT.of hwa, atI_nat (j := 0) rfl, rfl, _, rfl, ?_⟩
    show if (!decide (vN q.lhs = vN z.non)) = true then _ else _
    rw [show decide (vN q.lhs = vN z.non) = decide (q.lhs = z.non) from int_eq]
    by_cases e : q.lhs = z.non
    · rw [decide_eq_true e]
      rw [if_pos e] at ret0 ret1
      refine iteF ?_
      obtain ⟨SL, SR, _, _, tl, _⟩ := hz.ex
      refine ⟨_, rfl, wa, _, _, _, rfl, rfl, SqT.of hwa, atI_nat (j := 1) rfl, _, rfl, _, rfl, .ref wb, .ref lb, g, z.left, y, a, i, SL, [.non z.non], l, rfl, ⟨wb, rfl, hwb⟩, hL0, ok, hgo, hy400, tl.len, ?_, ?_, tl.go, TR.rok_non _, by omega, ret0, ret1⟩
      · rw [← e, hlh]; exact g1
      · rw [← e, hlh, hd]; exact g3.append g4
    · rw [decide_eq_false e]
      rw [if_neg e] at ret0
      exact iteT (ret0 rfl H (Ex.refl H))
def sp_replaced (L : Addr) : Sp := fun vs H Q _ => ∃ (lv wv hv : V) (g : Grammar) (y : List Nat) (a i : Nat) (z : Vaglrj.Rewrite) (b : List (Nat × List Nat)) (r : List Nat), vs = [lv, wv, vN i, hv] ∧ LaidV L H lv g a y ∧ RwV H wv z ∧ GOk g ∧ Go g NoHole [.non a] y [] ∧ y.length ≤ 400 ∧ TR.RwOk g z ∧ (kindsT g a y)[i]? = some true ∧
  Vaglrj.matchAt g z y i = some (b, r) ∧ MatV H hv b ∧ ∀ t H' l, Vaglrj.rewriteAt g z y i = some t → Go g NoHole [.non a] t [] → t.length ≤ 200000 → Ex H H' → H l = none → H' l = some (.lst (t.map vN)) → Q (.ref l) H'
abbrev s_replaced : Stmt := topS 56
/-- 0 laid, 1 rewriting, 2 at, 3 holes -/
theorem sc_replaced : FnScope ["laid", "rewriting", "at", "holes"] ["laid", "rewriting", "at", "holes"] (defScope s_replaced) := ⟨rfl, rfl, rfl, by decide +kernel, rfl, by decide +kernel, by decide +kernel⟩
theorem ok_replaced {f : Addr} {fd : FuncData} (F : Fun K "replaced" "replaced" s_replaced f fd) (T : Glob mg) (Lc : LCls K L) (F_filled : FnC P w K mg base CX0 2 "filled" ["right", "holes"] sp_filled) : FnOk P w K mg base CX0 3 f fd ["laid", "rewriting", "at", "holes"] (sp_replaced L) := by
  refine F.ok sc_replaced (fun vs H Q E h => ?_) (fun cdv A outer s H vs Q E hr h => ?_)
  · obtain ⟨_, _, _, _, _, _, _, _, _, _, rfl, _⟩ := h
    rfl
  · obtain ⟨lv, wv, hv, g, y, a, i, z, b, r, rfl, ⟨lb, dx, fs, nv, kv, sv, rfl, hb, l1, l2, l3, ⟨yl, rfl, hyl⟩, ⟨kl, rfl, hkl⟩, ⟨sl, rfl, hsl⟩⟩, ⟨wa, wb, wc, rfl, hwa, hwb, hwc⟩, ok, hgo, hy400, hz, hn, hm, hM, ret⟩ := h
    obtain ⟨hrd, hbd, hrw, hgo2⟩ := TR.rewrite_spec ok hgo hn hz hm
    have hiy : i < y.length := by rw [← TR.kinds_length hgo]; exact (List.getElem?_eq_some_iff.mp hn).1
    obtain ⟨SL, SR, _, _, tl, tr, _⟩ := hz.ex
    refine ⟨_, (pss_one (ps_ret (pe_op op_cat (pe_op op_cat (pe_slice sl_list (pe_fld (pv 0) rfl) po_none (po_some (pv 2))) (pe_fc F_filled (hr.mono (by decide)) pass0 (pa_cons (pe_ix ix_tup (pv 1) pe_int (fun _ _ => rfl)) (pa_cons (pv 3) pa_nil)))) (pe_slice sl_list (pe_fld (pv 0) rfl) (po_some (pe_ix ix_list (pe_fld (pv 0) rfl) (pv 2) (fun _ _ => rfl))) po_none)))), ?_⟩
    refine ⟨_, rfl, lb, L, dx, fs, _, rfl, hb, Lc.cls, Lc.numbers, l1, _, rfl, _, rfl, yl, _, rfl, SqL.of hyl, fun p1 hp1 => ?_⟩
    rw [cutV_to]
    have e1 : Ex H (upd H p1 (.lst ((y.map vN).take i))) := Ex.new hp1
    have h1 : upd H p1 (.lst ((y.map vN).take i)) p1 = some (.lst ((y.take i).map vN)) := by rw [upd_same, List.map_take]
    generalize upd H p1 (.lst ((y.map vN).take i)) = H1 at e1 h1
    refine ⟨_, rfl, wa, _, _, _, rfl, rfl, SqT.of (e1 _ _ hwa), atI_nat (j := 2) rfl, _, rfl, .ref wc, hv, z.right, b, rfl, ⟨wc, rfl, e1 _ _ hwc⟩, tr.len, hM.mono e1, hbd, fun H2 p2 e2 hp2 h2 hfl => ?_⟩
    have htl : (y.take i).length ≤ 400 := by rw [List.length_take]; omega
    refine ⟨p1, p2, _, _, rfl, rfl, e2 _ _ h1, h2, Nat.le_of_lt (small_lt (by rw [List.length_map, List.length_map]; omega)), fun p3 hp3 => ?_⟩
    have e3 : Ex H2 (upd H2 p3 (.lst ((y.take i).map vN ++ (Vaglrj.filled z.right b).map vN))) := Ex.new hp3
    have h3 : upd H2 p3 (.lst ((y.take i).map vN ++ (Vaglrj.filled z.right b).map vN)) p3 = some (.lst ((y.take i ++ Vaglrj.filled z.right b).map vN)) := by rw [upd_same, List.map_append]
    generalize upd H2 p3 (.lst ((y.take i).map vN ++ (Vaglrj.filled z.right b).map vN)) = H3 at e3 h3
    have e13 : Ex H H3 := (e1.tr e2).tr e3
    refine ⟨_, rfl, lb, L, dx, fs, _, rfl, e13 _ _ hb, Lc.cls, Lc.numbers, l1, _, rfl, lb, L, dx, fs, _, rfl, e13 _ _ hb, Lc.cls, Lc.stops, l3, _, rfl, sl, _, _, _, rfl, rfl, SqL.of (e13 _ _ hsl), atI_nat (map_vN_get (stopRow_get hiy)), _, rfl, yl, _, rfl, SqL.of (e13 _ _ hyl), fun p4 hp4 => ?_⟩
    rw [cutV_from]
    have e4 : Ex H3 (upd H3 p4 (.lst ((y.map vN).drop (stopN g (kindsT g a y) y i)))) := Ex.new hp4
    have h4 : upd H3 p4 (.lst ((y.map vN).drop (stopN g (kindsT g a y) y i))) p4 = some (.lst ((y.drop (stopN g (kindsT g a y) y i)).map vN)) := by rw [upd_same, List.map_drop]
    generalize upd H3 p4 (.lst ((y.map vN).drop (stopN g (kindsT g a y) y i))) = H4 at e4 h4
    have hdl : (y.drop (stopN g (kindsT g a y) y i)).length ≤ 400 := by rw [List.length_drop]; omega
    refine ⟨p3, p4, _, _, rfl, rfl, e4 _ _ h3, h4, Nat.le_of_lt (small_lt (by rw [List.length_map, List.length_map, List.length_append]; omega)), fun p5 hp5 => ?_⟩
    refine ret _ _ p5 hrw hgo2 (by rw [List.length_append, List.length_append]; omega) ((e13.tr e4).tr (Ex.new hp5)) ((e13.tr e4).back hp5) ?_
    rw [upd_same, ← List.map_append, List.append_assoc]
end
end TW
set_option Elab.async false
set_option linter.all false
set_option maxRecDepth 100000
set_option maxHeartbeats 4000000
namespace TW
open PySem PySem.Spec PyProof.Rows L2
open Vaglrc (Sym Rule Grammar Node)
open TR (GOk Go NoHole kinds kindsT stopN ROk trues)
abbrev RwsV : Hp → V → List Vaglrj.Rewrite → Prop := ListV RwV
theorem RwsV.mono {H H' : Hp} {v : V} {zs : List Vaglrj.Rewrite} (e : Ex H H') (h : RwsV H v zs) : RwsV H' v zs := ListV.mono (P := RwV) (fun _ _ _ _ => RwV.mono) e h
/-- a step: rule, place, term -/
def StepV (H : Hp) (v : V) (r i : Nat) (t : List Nat) : Prop := ∃ p q, v = .ref p ∧ H p = some (.tup [vN r, vN i, .ref q]) ∧ H q = some (.lst (t.map vN))
section
variable {P : Program} {w : World} {K : PySem.W.Frag} {mg : Str → Option Value} {base : Heap} {L : Addr}
def sp_first_going : Sp := fun vs H Q _ => ∃ (rw ws yv : V) (g : Grammar) (zs : List Vaglrj.Rewrite) (y : List Nat) (a : Nat), vs = [rw, ws, yv] ∧ RulesV H rw (own g) ∧ RwsV H ws zs ∧ NatsV H yv y ∧ GOk g ∧ (∀ z ∈ zs, TR.RwOk g z) ∧ zs.length ≤ 16 ∧ Go g NoHole [.non a] y [] ∧ y.length ≤ 400 ∧
  (Vaglrj.stepOf g a zs y = none → ∀ H', Ex H H' → Q .non H') ∧ ∀ r i t H' v, Vaglrj.stepOf g a zs y = some (r, i, t) → Go g NoHole [.non a] t [] → t.length ≤ 200000 → Ex H H' → StepV H' v r i t → Q v H'
abbrev s_first_going : Stmt := topS 57
/-- 0 rules, 1 rewritings, 2 numbers, 3 laid, 4 at, 5 node, 6 number, 7 rewriting, 8 holes -/
theorem sc_first_going : FnScope ["rules", "rewritings", "numbers", "laid", "at", "node", "number", "rewriting", "holes"] ["rules", "rewritings", "numbers"] (defScope s_first_going) := ⟨rfl, rfl, rfl, by decide +kernel, rfl, by decide +kernel, by decide +kernel⟩
theorem ok_first_going {f : Addr} {fd : FuncData} (F : Fun K "first_going" "first_going" s_first_going f fd) (T : Glob mg) (Lc : LCls K L) (F_laid_out : FnC P w K mg base CX0 3 "laid_out" ["rules", "numbers"] (sp_laid_out L)) (F_holes_at : FnC P w K mg base CX0 3 "holes_at" ["rules", "laid", "rewriting", "at"] (sp_holes_at L))
    (F_replaced : FnC P w K mg base CX0 3 "replaced" ["laid", "rewriting", "at", "holes"] (sp_replaced L)) : FnOk P w K mg base CX0 4 f fd ["rules", "rewritings", "numbers"] sp_first_going := by
  refine F.ok sc_first_going (fun vs H Q E h => ?_) (fun cdv A outer s H vs Q E hr h => ?_)
  · obtain ⟨_, _, _, _, _, _, _, rfl, _⟩ := h
    rfl
  · obtain ⟨rw, ws, yv, g, zs, y, a, rfl, hR, ⟨wl, wvs, rfl, hwl, hwp⟩, hy, ok, hzs, hz16, hgo, hy400, ret0, ret1⟩ := h
    have hkn : (kindsT g a y).length = y.length := TR.kinds_length hgo
    refine ⟨_, (pss_cons (ps_set (i := 3) sc_first_going.nd rfl (Or.inl rfl) (pe_fc F_laid_out (hr.mono (by decide)) pass0 (pa_cons (pv 0) (pa_cons (pv 2) pa_nil))))
    (pss_cons (ps_for PassesOwn.never rfl (pi_enum (by rfl) T.enumerate (pa_cons (pe_fld (pv 3) rfl) pa_nil)) (pg_tup rfl (pgs_cons (pg_name (i := 4) sc_first_going.nd rfl (Or.inl rfl)) (pgs_cons (pg_name (i := 5) sc_first_going.nd rfl (Or.inl rfl)) pgs_nil)))
    (pss_one (ps_if (pt_val (pv 5))
    (pss_one (ps_for PassesOwn.never rfl (pi_enum (by rfl) T.enumerate (pa_cons (pv 1) pa_nil)) (pg_tup rfl (pgs_cons (pg_name (i := 6) sc_first_going.nd rfl (Or.inl rfl)) (pgs_cons (pg_name (i := 7) sc_first_going.nd rfl (Or.inl rfl)) pgs_nil)))
    (pss_cons (ps_set (i := 8) sc_first_going.nd rfl (Or.inl rfl) (pe_fc F_holes_at (hr.mono (by decide)) pass0 (pa_cons (pv 0) (pa_cons (pv 3) (pa_cons (pv 7) (pa_cons (pv 4) pa_nil))))))
    (pss_one (ps_if (pt_cmpR op_notN (pv 8) pe_non (nomark _))
    (pss_one (ps_ret (pe_tup (pa_cons (pv 6) (pa_cons (pv 4) (pa_cons (pe_fc F_replaced (hr.mono (by decide)) pass0 (pa_cons (pv 3) (pa_cons (pv 7) (pa_cons (pv 4) (pa_cons (pv 8) pa_nil))))) pa_nil))))))
    pss_nil)))))
    pss_nil)))
    (pss_one (ps_ret pe_non)))), ?_⟩
    refine ⟨_, rfl, _, rfl, rw, yv, g, y, a, rfl, hR, ok, hy, hgo, hy400, fun lv H1 e1 hL => ?_⟩
    have hL0 := hL
    obtain ⟨lb, dx, fs, nv, kv, sv, rfl, hb, l1, l2, l3, _, ⟨kl, rfl, hkl⟩, _⟩ := hL
    refine ⟨_, rfl, lb, L, dx, fs, _, rfl, hb, Lc.cls, Lc.nodes, l2, kl, _, rfl, SqL.of hkl, for_it (walk_enum (xs := (kindsT g a y).map V.bl)) (fun i σ H' => ∃ (v4 v5 v6 v7 v8 : Option V), σ = [some rw, some (.ref wl), some yv, some (.ref lb), v4, v5, v6, v7, v8] ∧ Ex H1 H' ∧
      Vaglrj.firstAt g zs y (Vaglrj.nodesOf g a y) = Vaglrj.firstAt g zs y (trues i ((kindsT g a y).drop i))) ⟨none, none, none, none, none, rfl, Ex.refl _, by rw [TR.nodesOf_eq ok hgo]; rfl⟩ (fun i σ H' _ ⟨_, _, _, _, _, _, e, _⟩ => SqL.of (e _ _ hkl)) ?_ ?_⟩
    · rintro i v σ H2 H3 hi ⟨v4, v5, v6, v7, v8, rfl, e2, hfa⟩ ⟨T', x1, x2, rfl, hT, rfl, hx1, hx2⟩
      cases hx1
      have hx2 : ((kindsT g a y).map V.bl)[i]? = some x2 := hx2
      rw [List.getElem?_map] at hx2
      obtain ⟨kb, hkb, rfl⟩ := Option.map_eq_some_iff.mp hx2
      have e3 : Ex H2 (upd H2 T' (.tup [V.int (i : Nat), V.bl kb])) := Ex.new hT
      refine ⟨T', _, rfl, SqT.of upd_same, rfl, _, _, rfl, _, _, rfl, rfl, ?_⟩
      have e13 := e2.tr e3
      generalize upd H2 T' (.tup [V.int (i : Nat), V.bl kb]) = H3 at e3 e13
      refine ⟨_, rfl, kb, rfl, ?_⟩
      rw [TR.trues_at hkb] at hfa
      cases kb with
      | false =>
        rw [if_neg Bool.false_ne_true] at hfa
        exact iteF ⟨_, _, _, _, _, rfl, e13, hfa⟩
      | true =>
        rw [if_pos rfl] at hfa
        refine iteT ?_
        refine ⟨_, rfl, wl, _, rfl, SqL.of (e13 _ _ (e1 _ _ hwl)), for_it (walk_enum (xs := wvs)) (fun j σ H' => ∃ (v6 v7 v8 : Option V), σ = [some rw, some (.ref wl), some yv, some (.ref lb), some (vN i), some (V.bl true), v6, v7, v8] ∧ Ex H1 H' ∧
          ∀ j' z, j' < j → zs[j']? = some z → Vaglrj.matchAt g z y i = none) ⟨_, _, _, rfl, e13, fun j' z h => absurd h (Nat.not_lt_zero _)⟩ (fun j σ H' _ ⟨_, _, _, _, e, _⟩ => SqL.of (e _ _ (e1 _ _ hwl))) ?_ ?_⟩
        · rintro j v σ H4 H5 hj ⟨v6, v7, v8, rfl, e4, hno⟩ ⟨T2, x1, x2, rfl, hT2, rfl, hx1, hx2⟩
          cases hx1
          have hx2 : wvs[j]? = some x2 := hx2
          obtain ⟨z, hz, hzv⟩ := Paired.at' hwp hx2
          have e5 : Ex H4 (upd H4 T2 (.tup [V.int (j : Nat), x2])) := Ex.new hT2
          refine ⟨T2, _, rfl, SqT.of upd_same, rfl, _, _, rfl, _, _, rfl, rfl, ?_⟩
          have e15 := e4.tr e5
          generalize upd H4 T2 (.tup [V.int (j : Nat), x2]) = H5 at e5 e15
          have hzok := hzs z (List.mem_of_getElem? hz)
          refine ⟨_, rfl, _, rfl, _, rfl, _, rfl, rw, .ref lb, x2, g, y, a, i, z, rfl, hR.mono (e1.tr e15), hL0.mono e15, hzv.mono (e1.tr e15), ok, hgo, hy400, hzok, hkb, fun hm H6 e6 => ?_, fun b r H6 hv hm e6 hM => ?_⟩
          · refine ⟨_, rfl, rfl, _, rfl, iteF ?_⟩
            refine ⟨_, _, _, rfl, e15.tr e6, fun j' z' hj' hz' => ?_⟩
            rcases Nat.lt_or_ge j' j with h | h
            · exact hno j' z' h hz'
            · have : j' = j := by omega
              subst this
              rw [hz] at hz'; cases hz'
              exact hm
          · refine ⟨_, rfl, rfl, _, rfl, ?_⟩
            have hvn : hv ≠ .non := by obtain ⟨⟨p, _, rfl, _⟩, _⟩ := hM; exact fun e => by cases e
            rw [decide_eq_false hvn]
            refine iteT ?_
            have e16 := e15.tr e6
            refine ⟨_, rfl, _, rfl, _, rfl, _, rfl, _, rfl, _, rfl, .ref lb, x2, hv, g, y, a, i, z, b, r, rfl, hL0.mono e16, hzv.mono (e1.tr e16), ok, hgo, hy400, hzok, hkb, hm, hM, fun t H7 tl ht hgt htl e7 htn htv => ?_⟩
            refine ⟨three_line, fun tp htp => ?_⟩
            have hs := TR.stepOf_some (hfa.trans (TR.firstAt_some hz (by rw [hm]; rfl) hno)) hz ht
            exact ret1 j i t _ _ hs hgt htl (((e1.tr e16).tr e7).tr (Ex.new htp)) ⟨tp, tl, rfl, upd_same, (Ex.new htp) _ _ htv⟩
        · rintro σ H4 ⟨v6, v7, v8, rfl, e4, hno⟩
          refine ⟨_, _, _, _, _, rfl, e4, ?_⟩
          rw [hfa, TR.firstAt_none fun z hz => ?_]
          obtain ⟨j, hj⟩ := List.getElem?_of_mem hz
          exact hno j z (by rw [Paired.len hwp]; exact (List.getElem?_eq_some_iff.mp hj).1) hj
    · rintro σ H2 ⟨v4, v5, v6, v7, v8, rfl, e2, hfa⟩
      rw [List.length_map, List.drop_length] at hfa
      exact ret0 (TR.stepOf_none (hfa.trans TR.firstAt_nil)) H2 (e1.tr e2)
end
end TW
set_option Elab.async false
set_option linter.all false
set_option maxRecDepth 100000
set_option maxHeartbeats 4000000
namespace TW
open PySem PySem.Spec PyProof.Rows L2
open Vaglrc (Sym Rule Grammar Node)
open TR (GOk Go NoHole kinds kindsT stopN ROk trues)
theorem runOf_zero {g : Grammar} {a : Nat} {zs : List Vaglrj.Rewrite} {n : Nat} {y : List Nat} : Vaglrj.runOf g a zs 0 n y = if (Vaglrj.stepOf g a zs y).isSome then (1, n, y) else (0, n, y) := rfl
theorem runOf_succ {g : Grammar} {a : Nat} {zs : List Vaglrj.Rewrite} {k n : Nat} {y : List Nat} : Vaglrj.runOf g a zs (k + 1) n y = match Vaglrj.stepOf g a zs y with
    | none => (0, n, y)
    | some (_, _, z) => if 400 < z.length then (2, n, y) else Vaglrj.runOf g a zs k (n + 1) z := rfl
def RunV (H : Hp) (v : V) (r : Nat × Nat × List Nat) : Prop := ∃ p q, v = .ref p ∧ H p = some (.tup [vN r.1, vN r.2.1, q]) ∧ NatsV H q r.2.2
section
variable {P : Program} {w : World} {K : PySem.W.Frag} {mg : Str → Option Value} {base : Heap} {L : Addr}
def sp_run_of : Sp := fun vs H Q _ => ∃ (rw ws yv : V) (g : Grammar) (zs : List Vaglrj.Rewrite) (y : List Nat) (a n : Nat), vs = [rw, ws, yv, vN n] ∧ RulesV H rw (own g) ∧ RwsV H ws zs ∧ NatsV H yv y ∧ GOk g ∧ (∀ z ∈ zs, TR.RwOk g z) ∧ zs.length ≤ 16 ∧ Go g NoHole [.non a] y [] ∧ y.length ≤ 400 ∧ n ≤ 100 ∧
  ∀ H' v r, Vaglrj.runOf g a zs n 0 y = r → Go g NoHole [.non a] r.2.2 [] → r.2.2.length ≤ 400 → Ex H H' → RunV H' v r → Q v H'
abbrev s_run_of : Stmt := topS 58
/-- 0 rules, 1 rewritings, 2 numbers, 3 most, 4 term, 5 many, 6 found -/
theorem sc_run_of : FnScope ["rules", "rewritings", "numbers", "most", "term", "many", "found"] ["rules", "rewritings", "numbers", "most"] (defScope s_run_of) := ⟨rfl, rfl, rfl, by decide +kernel, rfl, by decide +kernel, by decide +kernel⟩
theorem ok_run_of {f : Addr} {fd : FuncData} (F : Fun K "run_of" "run_of" s_run_of f fd) (T : Glob mg) (F_first_going : FnC P w K mg base CX0 4 "first_going" ["rules", "rewritings", "numbers"] sp_first_going) : FnOk P w K mg base CX0 5 f fd ["rules", "rewritings", "numbers", "most"] sp_run_of := by
  refine F.ok sc_run_of (fun vs H Q E h => ?_) (fun cdv A outer s H vs Q E hr h => ?_)
  · obtain ⟨_, _, _, _, _, _, _, _, rfl, _⟩ := h
    rfl
  · obtain ⟨rw, ws, yv, g, zs, y, a, n, rfl, hR, hW, hy, ok, hzs, hz16, hgo, hy400, hn, ret⟩ := h
    refine ⟨_, (pss_cons (ps_set (i := 4) sc_run_of.nd rfl (Or.inl rfl) (pv 2))
    (pss_cons (ps_for PassesOwn.never rfl (pi_range1 (by rfl) T.range (pa_cons (pv 3) pa_nil)) (pg_name (i := 5) sc_run_of.nd rfl (Or.inl rfl))
    (pss_cons (ps_set (i := 6) sc_run_of.nd rfl (Or.inl rfl) (pe_fc F_first_going (hr.mono (by decide)) pass0 (pa_cons (pv 0) (pa_cons (pv 1) (pa_cons (pv 4) pa_nil)))))
    (pss_cons (ps_if (pt_cmpR op_isN (pv 6) pe_non (nomark _))
    (pss_one (ps_ret (pe_tup (pa_cons pe_int (pa_cons (pv 5) (pa_cons (pv 4) pa_nil))))))
    pss_nil)
    (pss_cons (ps_if (pt_cmpR op_gt (pe_callB call_len_seq (by rfl) T.len (by decide +kernel) (pa_cons (pe_ix ix_tup (pv 6) pe_int (fun _ _ => rfl)) pa_nil)) (pe_gi T.MOST_TERM) (nomark _))
    (pss_one (ps_ret (pe_tup (pa_cons pe_int (pa_cons (pv 5) (pa_cons (pv 4) pa_nil))))))
    pss_nil)
    (pss_one (ps_set (i := 4) sc_run_of.nd rfl (Or.inl rfl) (pe_ix ix_tup (pv 6) pe_int (fun _ _ => rfl))))))))
    (pss_cons (ps_if (pt_cmpR op_isN (pe_fc F_first_going (hr.mono (by decide)) pass0 (pa_cons (pv 0) (pa_cons (pv 1) (pa_cons (pv 4) pa_nil)))) pe_non (nomark _))
    (pss_one (ps_ret (pe_tup (pa_cons pe_int (pa_cons (pv 3) (pa_cons (pv 4) pa_nil))))))
    pss_nil)
    (pss_one (ps_ret (pe_tup (pa_cons pe_int (pa_cons (pv 3) (pa_cons (pv 4) pa_nil))))))))), ?_⟩
    refine ⟨_, rfl, _, rfl, _, rfl, by omega, by omega, for_range (fun i σ H' => ∃ (tv : V) (t : List Nat) (v5 v6 : Option V), σ = [some rw, some ws, some yv, some (vN n), some tv, v5, v6] ∧ Ex H H' ∧ NatsV H' tv t ∧ Go g NoHole [.non a] t [] ∧ t.length ≤ 400 ∧ Vaglrj.runOf g a zs n 0 y = Vaglrj.runOf g a zs (n - i) i t)
      ⟨yv, y, none, none, rfl, Ex.refl _, hy, hgo, hy400, rfl⟩ ?_ ?_⟩
    · rintro i σ H1 hi ⟨tv, t, v5, v6, rfl, e1, ht, htg, htl, hrn⟩
      rw [show n - i = (n - (i + 1)) + 1 by omega, runOf_succ] at hrn
      refine ⟨_, rfl, _, rfl, _, rfl, rw, ws, tv, g, zs, t, a, rfl, hR.mono e1, hW.mono e1, ht, ok, hzs, hz16, htg, htl, fun hs H2 e2 => ?_, fun r j z H2 sv hs hzg hzl e2 hsv => ?_⟩
      · rw [hs] at hrn
        refine ⟨_, rfl, rfl, _, rfl, iteT ?_⟩
        refine ⟨_, rfl, _, rfl, three_line, fun tp htp => ?_⟩
        exact ret _ _ (0, i, t) hrn htg htl ((e1.tr e2).tr (Ex.new htp)) ⟨tp, tv, rfl, by rw [upd_same, Int.zero_add]; rfl, ht.mono (e2.tr (Ex.new htp))⟩
      · rw [hs] at hrn
        obtain ⟨p, q, rfl, hp, hq⟩ := hsv
        refine ⟨_, rfl, rfl, _, rfl, iteF ?_⟩
        refine ⟨_, rfl, p, _, _, _, rfl, rfl, SqT.of hp, atI_nat (j := 2) rfl, q, _, rfl, .inl (SqL.of hq), _, _, rfl, rfl, _, rfl, ?_⟩
        rw [List.length_map]
        show if decide ((400 : Int) < (z.length : Int)) = true then _ else _
        simp only at hrn
        by_cases hz : 400 < z.length
        · rw [if_pos hz] at hrn
          rw [decide_eq_true (by omega)]
          refine iteT ?_
          refine ⟨_, rfl, _, rfl, three_line, fun tp htp => ?_⟩
          exact ret _ _ (2, i, t) hrn htg htl ((e1.tr e2).tr (Ex.new htp)) ⟨tp, tv, rfl, by rw [upd_same, Int.zero_add]; rfl, ht.mono (e2.tr (Ex.new htp))⟩
        · rw [if_neg hz] at hrn
          rw [decide_eq_false (by omega)]
          refine iteF ?_
          exact ⟨_, rfl, p, _, _, _, rfl, rfl, SqT.of hp, atI_nat (j := 2) rfl, .ref q, z, _, _, rfl, e1.tr e2, ⟨q, rfl, hq⟩, hzg, by omega, hrn⟩
    · rintro σ H1 ⟨tv, t, v5, v6, rfl, e1, ht, htg, htl, hrn⟩
      have hn0 : Vaglrj.runOf g a zs n 0 y = Vaglrj.runOf g a zs 0 n t := by
        rw [hrn]; simp
      rw [runOf_zero] at hn0
      refine ⟨_, rfl, _, rfl, _, rfl, rw, ws, tv, g, zs, t, a, rfl, hR.mono e1, hW.mono e1, ht, ok, hzs, hz16, htg, htl, fun hs H2 e2 => ?_, fun r j z H2 sv hs hzg hzl e2 hsv => ?_⟩
      · rw [hs, if_neg (by simp)] at hn0
        refine ⟨rfl, _, rfl, iteT ?_⟩
        refine ⟨_, rfl, _, rfl, three_line, fun tp htp => ?_⟩
        exact ret _ _ (0, n, t) hn0 htg htl ((e1.tr e2).tr (Ex.new htp)) ⟨tp, tv, rfl, upd_same, ht.mono (e2.tr (Ex.new htp))⟩
      · rw [hs, if_pos (by simp)] at hn0
        obtain ⟨p, q, rfl, hp, hq⟩ := hsv
        refine ⟨rfl, _, rfl, iteF ?_⟩
        refine ⟨_, rfl, _, rfl, three_line, fun tp htp => ?_⟩
        exact ret _ _ (1, n, t) hn0 htg htl ((e1.tr e2).tr (Ex.new htp)) ⟨tp, tv, rfl, upd_same, ht.mono (e2.tr (Ex.new htp))⟩
end
end TW
set_option Elab.async false
set_option linter.all false
set_option maxRecDepth 100000
set_option maxHeartbeats 4000000
namespace TW
open PySem PySem.Spec PyProof.Rows L2
open Vaglrc (Sym Rule Grammar Node)
open TR (GOk SOk symTake ruleTake)
section
variable {P : Program} {w : World} {K : PySem.W.Frag} {mg : Str → Option Value} {base : Heap} {L : Addr}
/-- a pair of a thing and a place -/
def PlaceV {α : Type} (R : Hp → V → α → Prop) (H : Hp) (v : V) (x : α) (n : Nat) : Prop := ∃ p q, v = .ref p ∧ H p = some (.tup [q, vN n]) ∧ R H q x
def sp_symbol_at : Sp := fun vs H Q _ => ∃ (rv : V) (xs : List Nat) (at_ n : Nat), vs = [rv, vN at_, vN n] ∧ NatsV H rv xs ∧ at_ ≤ xs.length ∧ (symTake n (xs.drop at_) = none → ∀ H', Ex H H' → Q .non H') ∧ ∀ s c H' v, symTake n (xs.drop at_) = some (s, c) → Ex H H' → PlaceV SymV H' v s (at_ + c) → Q v H'
abbrev s_symbol_at : Stmt := topS 11
/-- 0 row, 1 at, 2 many -/
theorem sc_symbol_at : FnScope ["row", "at", "many"] ["row", "at", "many"] (defScope s_symbol_at) := ⟨rfl, rfl, rfl, by decide +kernel, rfl, by decide +kernel, by decide +kernel⟩
theorem ok_symbol_at {f : Addr} {fd : FuncData} (F : Fun K "symbol_at" "symbol_at" s_symbol_at f fd) (T : Glob mg) : FnOk P w K mg base CX0 1 f fd ["row", "at", "many"] sp_symbol_at := by
  refine F.ok sc_symbol_at (fun vs H Q E h => ?_) (fun cdv A outer s H vs Q E hr h => ?_)
  · obtain ⟨_, _, _, _, rfl, _⟩ := h
    rfl
  · obtain ⟨rv, xs, at_, n, rfl, ⟨rl, rfl, hrl⟩, hat, ret0, ret1⟩ := h
    refine ⟨_, (pss_cons (ps_if (pt_cmpR op_ge (pe_op op_add (pv 1) pe_int) (pe_callB call_len_seq (by rfl) T.len (by decide +kernel) (pa_cons (pv 0) pa_nil)) (nomark _))
    (pss_one (ps_ret pe_non))
    pss_nil)
    (pss_cons (ps_if (pt_cmpR op_eq (pe_ix ix_list (pv 0) (pv 1) (fun _ _ => rfl)) (pe_gi T.NONTERMINAL) (nomark _))
    (pss_cons (ps_if (pt_cmpR op_ge (pe_ix ix_list (pv 0) (pe_op op_add (pv 1) pe_int) (fun _ _ => rfl)) (pv 2) (nomark _))
    (pss_one (ps_ret pe_non))
    pss_nil)
    (pss_one (ps_ret (pe_tup (pa_cons (pe_tup (pa_cons (pe_gi T.NONTERMINAL) (pa_cons (pe_ix ix_list (pv 0) (pe_op op_add (pv 1) pe_int) (fun _ _ => rfl)) (pa_cons (pe_ix ix_list (pv 0) (pe_op op_add (pv 1) pe_int) (fun _ _ => rfl)) pa_nil)))) (pa_cons (pe_op op_add (pv 1) pe_int) pa_nil))))))
    pss_nil)
    (pss_cons (ps_if (PW.pt (pw_or (pt_cmpR op_ne (pe_ix ix_list (pv 0) (pv 1) (fun _ _ => rfl)) (pe_gi T.RANGE) (nomark _)) (pw_or1 (pt_cmpR op_ge (pe_op op_add (pv 1) pe_int) (pe_callB call_len_seq (by rfl) T.len (by decide +kernel) (pa_cons (pv 0) pa_nil)) (nomark _)))))
    (pss_one (ps_ret pe_non))
    pss_nil)
    (pss_cons (ps_if (PW.pt (pw_or (pt_cmpR op_gt (pe_ix ix_list (pv 0) (pe_op op_add (pv 1) pe_int) (fun _ _ => rfl)) (pe_ix ix_list (pv 0) (pe_op op_add (pv 1) pe_int) (fun _ _ => rfl)) (nomark _)) (pw_or1 (pt_cmpR op_gt (pe_ix ix_list (pv 0) (pe_op op_add (pv 1) pe_int) (fun _ _ => rfl)) (pe_gi T.MOST_BYTE) (nomark _)))))
    (pss_one (ps_ret pe_non))
    pss_nil)
    (pss_one (ps_ret (pe_tup (pa_cons (pe_tup (pa_cons (pe_gi T.RANGE) (pa_cons (pe_ix ix_list (pv 0) (pe_op op_add (pv 1) pe_int) (fun _ _ => rfl)) (pa_cons (pe_ix ix_list (pv 0) (pe_op op_add (pv 1) pe_int) (fun _ _ => rfl)) pa_nil)))) (pa_cons (pe_op op_add (pv 1) pe_int) pa_nil))))))))), ?_⟩
    refine ⟨_, rfl, _, _, rfl, rfl, _, rfl, rl, _, rfl, .inl (SqL.of hrl), _, _, rfl, rfl, _, rfl, ?_⟩
    rw [List.length_map]
    show if decide ((xs.length : Int) ≤ ((at_ + 1 : Nat) : Int)) = true then _ else _
    rw [int_le]
    by_cases h1 : xs.length ≤ at_ + 1
    · rw [decide_eq_true h1]
      refine iteT (ret0 ?_ H (Ex.refl H))
      have hl : (xs.drop at_).length ≤ 1 := by rw [List.length_drop]; omega
      match hd : xs.drop at_, hl with
      | [], _ => rfl
      | [0], _ => rfl
      | [1], _ => rfl
      | [_ + 2], _ => rfl
    · rw [decide_eq_false h1]
      refine iteF ?_
      obtain ⟨x0, h0⟩ : ∃ x0, xs[at_]? = some x0 := ⟨_, List.getElem?_eq_getElem (by omega)⟩
      obtain ⟨x1, h1'⟩ : ∃ x1, xs[at_ + 1]? = some x1 := ⟨_, List.getElem?_eq_getElem (by omega)⟩
      have hd : xs.drop at_ = x0 :: x1 :: xs.drop (at_ + 2) := by
        rw [List.drop_eq_getElem_cons (by omega), List.drop_eq_getElem_cons (i := at_ + 1) (by omega)]
        rw [List.getElem?_eq_getElem (by omega)] at h0 h1'
        rw [Option.some.inj h0, Option.some.inj h1']
      rw [hd] at ret0 ret1
      refine ⟨_, rfl, _, rfl, rl, _, _, _, rfl, rfl, SqL.of hrl, atI_nat (map_vN_get h0), rfl, _, rfl, ?_⟩
      show if decide (vN x0 = vN 0) = true then _ else _
      rw [show decide (vN x0 = vN 0) = decide (x0 = 0) from int_eq]
      by_cases hz : x0 = 0
      · rw [decide_eq_true hz]
        refine iteT ?_
        subst hz
        refine ⟨_, rfl, _, rfl, _, _, rfl, rfl, rl, _, _, _, rfl, rfl, SqL.of hrl, atI_nat (j := at_ + 1) (map_vN_get h1'), _, rfl, _, _, rfl, rfl, _, rfl, ?_⟩
        show if decide ((n : Int) ≤ (x1 : Int)) = true then _ else _
        rw [int_le]
        have hs : symTake n (0 :: x1 :: xs.drop (at_ + 2)) = if x1 < n then some (.non x1, 2) else none := rfl
        rw [hs] at ret0 ret1
        by_cases hn : n ≤ x1
        · rw [decide_eq_true hn]
          rw [if_neg (by omega)] at ret0
          exact iteT (ret0 rfl H (Ex.refl H))
        · rw [decide_eq_false hn]
          rw [if_pos (by omega)] at ret1
          refine iteF ?_
          refine ⟨_, rfl, _, rfl, _, _, rfl, rfl, rl, _, _, _, rfl, rfl, SqL.of hrl, atI_nat (j := at_ + 1) (map_vN_get h1'), _, rfl, _, rfl, _, _, rfl, rfl, rl, _, _, _, rfl, rfl, SqL.of hrl, atI_nat (j := at_ + 1) (map_vN_get h1'), three_line, fun tp htp => ⟨_, rfl, _, _, rfl, rfl, two_line, fun t2 ht2 => ?_⟩⟩
          exact ret1 _ _ _ _ rfl ((Ex.new htp).tr (Ex.new ht2)) ⟨t2, .ref tp, rfl, upd_same, tp, rfl, (Ex.new ht2) _ _ upd_same⟩
      · rw [decide_eq_false hz]
        refine iteF ?_
        refine ⟨_, rfl, _, rfl, rl, _, _, _, rfl, rfl, SqL.of hrl, atI_nat (map_vN_get h0), rfl, _, rfl, ?_⟩
        show if (!decide (vN x0 = vN 1)) = true then _ else _
        rw [show decide (vN x0 = vN 1) = decide (x0 = 1) from int_eq]
        by_cases hz1 : x0 = 1
        · rw [decide_eq_true hz1]
          subst hz1
          refine iteF ?_
          refine ⟨_, rfl, _, _, rfl, rfl, _, rfl, rl, _, rfl, .inl (SqL.of hrl), _, _, rfl, rfl, _, rfl, ?_⟩
          rw [List.length_map]
          show if decide ((xs.length : Int) ≤ ((at_ + 2 : Nat) : Int)) = true then _ else _
          rw [int_le]
          by_cases h2 : xs.length ≤ at_ + 2
          · rw [decide_eq_true h2]
            refine iteT (ret0 ?_ H (Ex.refl H))
            rw [List.drop_eq_nil_of_le h2]; rfl
          · rw [decide_eq_false h2]
            refine iteF ?_
            obtain ⟨x2, h2'⟩ : ∃ x2, xs[at_ + 2]? = some x2 := ⟨_, List.getElem?_eq_getElem (by omega)⟩
            have hd2 : xs.drop (at_ + 2) = x2 :: xs.drop (at_ + 3) := by
              rw [List.drop_eq_getElem_cons (by omega)]
              rw [List.getElem?_eq_getElem (by omega)] at h2'
              rw [Option.some.inj h2']
            rw [hd2] at ret0 ret1
            have hs : symTake n (1 :: x1 :: x2 :: xs.drop (at_ + 3)) = if x1 ≤ x2 ∧ x2 < 256 then some (.range x1 x2, 3) else none := rfl
            rw [hs] at ret0 ret1
            refine ⟨_, rfl, _, rfl, _, _, rfl, rfl, rl, _, _, _, rfl, rfl, SqL.of hrl, atI_nat (j := at_ + 1) (map_vN_get h1'), _, rfl, _, rfl, _, _, rfl, rfl, rl, _, _, _, rfl, rfl, SqL.of hrl, atI_nat (j := at_ + 2) (map_vN_get h2'), _, _, rfl, rfl, _, rfl, ?_⟩
            show if decide ((x2 : Int) < (x1 : Int)) = true then _ else _
            rw [int_lt]
            by_cases h3 : x2 < x1
            · rw [decide_eq_true h3]
              rw [if_neg (by omega)] at ret0
              exact iteT (ret0 rfl H (Ex.refl H))
            · rw [decide_eq_false h3]
              refine iteF ?_
              refine ⟨_, rfl, _, rfl, _, _, rfl, rfl, rl, _, _, _, rfl, rfl, SqL.of hrl, atI_nat (j := at_ + 2) (map_vN_get h2'), _, _, rfl, rfl, _, rfl, ?_⟩
              show if decide (((255 : Nat) : Int) < (x2 : Int)) = true then _ else _
              rw [int_lt]
              by_cases h4 : 255 < x2
              · rw [decide_eq_true h4]
                rw [if_neg (by omega)] at ret0
                exact iteT (ret0 rfl H (Ex.refl H))
              · rw [decide_eq_false h4]
                rw [if_pos (by omega)] at ret1
                refine iteF ?_
                refine ⟨_, rfl, _, rfl, _, _, rfl, rfl, rl, _, _, _, rfl, rfl, SqL.of hrl, atI_nat (j := at_ + 1) (map_vN_get h1'), _, rfl, _, rfl, _, _, rfl, rfl, rl, _, _, _, rfl, rfl, SqL.of hrl, atI_nat (j := at_ + 2) (map_vN_get h2'), three_line, fun tp htp => ⟨_, rfl, _, _, rfl, rfl, two_line, fun t2 ht2 => ?_⟩⟩
                exact ret1 _ _ _ _ rfl ((Ex.new htp).tr (Ex.new ht2)) ⟨t2, .ref tp, rfl, upd_same, tp, rfl, (Ex.new ht2) _ _ upd_same⟩
        · rw [decide_eq_false hz1]
          refine iteT (ret0 ?_ H (Ex.refl H))
          match x0, hz, hz1 with
          | k + 2, _, _ => rfl
end
end TW
set_option Elab.async false
set_option linter.all false
set_option maxRecDepth 100000
set_option maxHeartbeats 4000000
namespace TW
open PySem PySem.Spec PyProof.Rows L2
open Vaglrc (Sym Rule Grammar Node)
open TR (GOk SOk symTake ruleTake)
section
variable {P : Program} {w : World} {K : PySem.W.Frag} {mg : Str → Option Value} {base : Heap} {G : Addr}
def sp_Grammar_init (G : Addr) : Sp := fun vs H Q _ => ∃ (x dx : Addr) (mv rv : V), vs = [.ref x, mv, rv] ∧ H x = some (.ins G dx []) ∧ ∀ H' fs, Ex (del H x) H' → H' x = some (.ins G dx fs) → fs.lookup ("many" : Str) = some mv → fs.lookup ("rules" : Str) = some rv → Q .non H'
abbrev s_Grammar_init : Stmt := inClass (topS 10) 0
/-- 0 self, 1 many, 2 rules -/
theorem sc_Grammar_init : FnScope ["self", "many", "rules"] ["self", "many", "rules"] (defScope s_Grammar_init) := ⟨rfl, rfl, rfl, by decide +kernel, rfl, by decide +kernel, by decide +kernel⟩
theorem ok_Grammar_init {f : Addr} {fd : FuncData} (F : Fun K "__init__" "Grammar.__init__" s_Grammar_init f fd) (T : Glob mg) (Gc : GCls K G) : FnOk P w K mg base CX0 1 f fd ["self", "many", "rules"] (sp_Grammar_init G) := by
  refine F.ok sc_Grammar_init (fun vs H Q E h => ?_) (fun cdv A outer s H vs Q E hr h => ?_)
  · obtain ⟨_, _, _, _, rfl, _⟩ := h
    rfl
  · obtain ⟨x, dx, mv, rv, rfl, hx, ret⟩ := h
    refine ⟨_, (pss_cons (ps_fld (pv 0) (pv 1) rfl)
    (pss_one (ps_fld (pv 0) (pv 2) rfl))), ?_⟩
    refine ⟨_, rfl, _, rfl, x, G, dx, [], rfl, hx, Gc.cls, Gc.many, by decide, _, rfl, _, rfl, x, G, dx, _, rfl, upd_same, Gc.cls, Gc.rules, (show 1 < 1000 by decide), ?_⟩
    exact ret _ _ (fun b u q => by
      by_cases e : b = x
      · subst e; rw [del_same] at q; cases q
      · rw [del_ne e] at q; rw [upd_ne e, upd_ne e]; exact q) upd_same rfl rfl
def sp_rule_at : Sp := fun vs H Q _ => ∃ (rv : V) (xs : List Nat) (at_ n : Nat), vs = [rv, vN at_, vN n] ∧ NatsV H rv xs ∧ at_ ≤ xs.length ∧ (ruleTake n (xs.drop at_) = none → ∀ H', Ex H H' → Q .non H') ∧ ∀ q r p H' v, ruleTake n (xs.drop at_) = some (q, r) → r = xs.drop p → p ≤ xs.length → Ex H H' → PlaceV RuleV H' v (q, -1) p → (∀ l ys, H l = some (.lst ys) → PlaceV RuleV (del H' l) v (q, -1) p) → Q v H'
abbrev s_rule_at : Stmt := topS 12
/-- 0 row, 1 at, 2 many, 3 symbols, 4 place, 5 turn, 6 found -/
theorem sc_rule_at : FnScope ["row", "at", "many", "symbols", "place", "turn", "found"] ["row", "at", "many"] (defScope s_rule_at) := ⟨rfl, rfl, rfl, by decide +kernel, rfl, by decide +kernel, by decide +kernel⟩
theorem ok_rule_at {f : Addr} {fd : FuncData} (F : Fun K "rule_at" "rule_at" s_rule_at f fd) (T : Glob mg) (F_symbol_at : FnC P w K mg base CX0 1 "symbol_at" ["row", "at", "many"] sp_symbol_at) : FnOk P w K mg base CX0 2 f fd ["row", "at", "many"] sp_rule_at := by
  refine F.ok sc_rule_at (fun vs H Q E h => ?_) (fun cdv A outer s H vs Q E hr h => ?_)
  · obtain ⟨_, _, _, _, rfl, _⟩ := h
    rfl
  · obtain ⟨rv, xs, at_, n, rfl, ⟨rl, rfl, hrl⟩, hat, ret0, ret1⟩ := h
    refine ⟨_, (pss_cons (ps_if (PW.pt (pw_or (pt_cmpR op_ge (pe_op op_add (pv 1) pe_int) (pe_callB call_len_seq (by rfl) T.len (by decide +kernel) (pa_cons (pv 0) pa_nil)) (nomark _)) (pw_or (pt_cmpR op_ge (pe_ix ix_list (pv 0) (pv 1) (fun _ _ => rfl)) (pv 2) (nomark _)) (pw_or1 (pt_cmpR op_gt (pe_ix ix_list (pv 0) (pe_op op_add (pv 1) pe_int) (fun _ _ => rfl)) (pe_gi T.MOST_SYMBOLS) (nomark _))))))
    (pss_one (ps_ret pe_non))
    pss_nil)
    (pss_cons (ps_set (i := 3) sc_rule_at.nd rfl (Or.inl rfl) (pe_lst pa_nil))
    (pss_cons (ps_set (i := 4) sc_rule_at.nd rfl (Or.inl rfl) (pe_op op_add (pv 1) pe_int))
    (pss_cons (ps_for PassesOwn.never rfl (pi_range1 (by rfl) T.range (pa_cons (pe_ix ix_list (pv 0) (pe_op op_add (pv 1) pe_int) (fun _ _ => rfl)) pa_nil)) (pg_name (i := 5) sc_rule_at.nd rfl (Or.inl rfl))
    (pss_cons (ps_set (i := 6) sc_rule_at.nd rfl (Or.inl rfl) (pe_fc F_symbol_at (hr.mono (by decide)) pass0 (pa_cons (pv 0) (pa_cons (pv 4) (pa_cons (pv 2) pa_nil)))))
    (pss_cons (ps_if (pt_cmpR op_isN (pv 6) pe_non (nomark _))
    (pss_one (ps_ret pe_non))
    pss_nil)
    (pss_cons (ps_expr (pe_bm PySem.F.plainAttrs_list PySem.F.slot_list_append PySem.F.type_list_append mt_append (pv 3) (pa_cons (pe_ix ix_tup (pv 6) pe_int (fun _ _ => rfl)) pa_nil)))
    (pss_one (ps_set (i := 4) sc_rule_at.nd rfl (Or.inl rfl) (pe_ix ix_tup (pv 6) pe_int (fun _ _ => rfl))))))))
    (pss_one (ps_ret (pe_tup (pa_cons (pe_tup (pa_cons (pe_ix ix_list (pv 0) (pv 1) (fun _ _ => rfl)) (pa_cons (pv 3) (pa_cons (pe_gi T.NO_HOLE) pa_nil)))) (pa_cons (pv 4) pa_nil))))))))), ?_⟩
    refine ⟨_, rfl, _, _, rfl, rfl, _, rfl, rl, _, rfl, .inl (SqL.of hrl), _, _, rfl, rfl, _, rfl, ?_⟩
    rw [List.length_map]
    show if decide ((xs.length : Int) ≤ ((at_ + 1 : Nat) : Int)) = true then _ else _
    rw [int_le]
    by_cases h1 : xs.length ≤ at_ + 1
    · rw [decide_eq_true h1]
      refine iteT (ret0 ?_ H (Ex.refl H))
      have hl : (xs.drop at_).length ≤ 1 := by rw [List.length_drop]; omega
      match hd : xs.drop at_, hl with
      | [], _ => rfl
      | [_], _ => rfl
    rw [decide_eq_false h1]
    refine iteF ?_
    obtain ⟨x0, h0⟩ : ∃ x0, xs[at_]? = some x0 := ⟨_, List.getElem?_eq_getElem (by omega)⟩
    obtain ⟨x1, h1'⟩ : ∃ x1, xs[at_ + 1]? = some x1 := ⟨_, List.getElem?_eq_getElem (by omega)⟩
    have hd : xs.drop at_ = x0 :: x1 :: xs.drop (at_ + 2) := by
      rw [List.drop_eq_getElem_cons (by omega), List.drop_eq_getElem_cons (i := at_ + 1) (by omega)]
      rw [List.getElem?_eq_getElem (by omega)] at h0 h1'
      rw [Option.some.inj h0, Option.some.inj h1']
    have hs : ruleTake n (x0 :: x1 :: xs.drop (at_ + 2)) = if x0 < n ∧ x1 ≤ 8 then (Vaglrc.readSyms n x1 (xs.drop (at_ + 2))).map fun y => (({ lhs := x0, rhs := y.1 } : Rule), y.2) else none := rfl
    rw [hd, hs] at ret0 ret1
    refine ⟨_, rfl, _, rfl, rl, _, _, _, rfl, rfl, SqL.of hrl, atI_nat (map_vN_get h0), _, rfl, _, _, rfl, rfl, _, rfl, ?_⟩
    show if decide ((n : Int) ≤ (x0 : Int)) = true then _ else _
    rw [int_le]
    by_cases h2 : n ≤ x0
    · rw [decide_eq_true h2]
      rw [if_neg (by omega)] at ret0
      exact iteT (ret0 rfl H (Ex.refl H))
    rw [decide_eq_false h2]
    refine iteF ?_
    refine ⟨_, rfl, _, rfl, _, _, rfl, rfl, rl, _, _, _, rfl, rfl, SqL.of hrl, atI_nat (j := at_ + 1) (map_vN_get h1'), _, _, rfl, rfl, _, rfl, ?_⟩
    show if decide (((8 : Nat) : Int) < (x1 : Int)) = true then _ else _
    rw [int_lt]
    by_cases h3 : 8 < x1
    · rw [decide_eq_true h3]
      rw [if_neg (by omega)] at ret0
      exact iteT (ret0 rfl H (Ex.refl H))
    rw [decide_eq_false h3]
    rw [if_pos (by omega)] at ret0 ret1
    refine iteF ?_
    refine ⟨nil_line, fun fl hfl => ?_⟩
    have e0 := Ex.new (o := .lst []) hfl
    refine ⟨_, rfl, _, _, rfl, rfl, _, rfl, _, rfl, _, _, rfl, rfl, rl, _, _, _, rfl, rfl, SqL.of (e0 _ _ hrl), atI_nat (j := at_ + 1) (map_vN_get h1'), _, rfl, by omega, by omega, for_range (fun i σ H' => ∃ (p : Nat) (l : List Sym) (v5 v6 : Option V), σ = [some (.ref rl), some (vN at_), some (vN n), some (.ref fl), some (vN p), v5, v6] ∧ Ex H H' ∧ MList SymV H' fl l ∧ l.length = i ∧ p ≤ xs.length ∧
      Vaglrc.readSyms n x1 (xs.drop (at_ + 2)) = (Vaglrc.readSyms n (x1 - i) (xs.drop p)).map fun y => (l ++ y.1, y.2)) ⟨at_ + 2, [], none, none, rfl, e0, MList.new hfl, rfl, by omega, ?_⟩ ?_ ?_⟩
    · simp
    · rintro i σ H1 hi ⟨p, l, v5, v6, rfl, e1, ⟨ls, hls, hlp⟩, hll, hp, hrd⟩
      rw [show x1 - i = (x1 - (i + 1)) + 1 by omega, TR.readSyms_succ] at hrd
      refine ⟨_, rfl, _, rfl, _, rfl, .ref rl, xs, p, n, rfl, ⟨rl, rfl, e1 _ _ hrl⟩, hp, fun hst H2 e2 => ?_, fun sm c H2 v hst e2 hv => ?_⟩
      · rw [hst] at hrd
        refine ⟨_, rfl, rfl, _, rfl, iteT ?_⟩
        exact ret0 (by rw [hrd]; rfl) H2 (e1.tr e2)
      · obtain ⟨tp, q, rfl, htp, hq⟩ := hv
        obtain ⟨_, hc2, hc3⟩ := TR.symTake_ok hst
        rw [List.length_drop] at hc3
        refine ⟨_, rfl, rfl, _, rfl, iteF ?_⟩
        rw [hst] at hrd
        have hls2 := e2 _ _ hls
        obtain ⟨sa, rfl, hsa⟩ := hq
        have hsf : sa ≠ fl := fun q => by rw [q, hls2] at hsa; cases hsa
        have htf : tp ≠ fl := fun q => by rw [q, hls2] at htp; cases htp
        refine ⟨_, rfl, .inl ⟨rfl, _, SqL.of hls2⟩, _, rfl, tp, _, _, _, rfl, rfl, SqT.of htp, atI_nat (j := 0) rfl, fl, ls, _, rfl, rfl, hls2, small_lt (by rw [Paired.len hlp]; omega), ?_⟩
        refine ⟨_, rfl, tp, _, _, _, rfl, rfl, SqT.of (by rw [upd_ne htf]; exact htp), atI_nat (j := 1) rfl, p + c, l ++ [sm], _, _, rfl, (e1.tr e2).mut hfl, MList.snoc hls2 (Paired.mono2 hlp fun v s q => SymV.mono (del_mono e2) q) ⟨sa, rfl, by rw [del_ne hsf]; exact hsa⟩, by rw [List.length_append, hll]; rfl, by omega, ?_⟩
        rw [hrd]
        simp only [List.drop_drop]
        cases Vaglrc.readSyms n (x1 - (i + 1)) (xs.drop (p + c)) <;> simp
    · rintro σ H1 ⟨p, l, v5, v6, rfl, e1, hM, hll, hp, hrd⟩
      have hrd2 : Vaglrc.readSyms n x1 (xs.drop (at_ + 2)) = some (l, xs.drop p) := by
        rw [hrd]
        have : x1 - (((x1 : Nat) : Int) : Int).toNat = 0 := by rw [Int.toNat_natCast]; omega
        simp [TR.readSyms_zero]
      rw [hrd2] at ret1
      refine ⟨_, rfl, _, rfl, rl, _, _, _, rfl, rfl, SqL.of (e1 _ _ hrl), atI_nat (map_vN_get h0), _, rfl, three_line, fun tp htp => ⟨_, rfl, two_line, fun t2 ht2 => ?_⟩⟩
      have e2 := (Ex.new (o := .tup [vN x0, .ref fl, .int (-1)]) htp)
      have e3 := (Ex.new (o := .tup [.ref tp, vN p]) ht2)
      have hM2 := MList.mono (P := SymV) (fun _ _ _ _ => SymV.mono) (e2.tr e3) hM
      refine ret1 { lhs := x0, rhs := l } _ p _ _ rfl rfl hp ((e1.tr e2).tr e3) ⟨t2, .ref tp, rfl, upd_same, tp, .ref fl, rfl, e3 _ _ upd_same, MList.toV (fun _ _ _ _ => SymV.mono) hM2⟩ fun ll ys hll' => ?_
      obtain ⟨ls, hls, hlp⟩ := hM2
      have hall := ((e1.tr e2).tr e3) _ _ hll'
      have f1 : fl ≠ ll := fun q => by rw [q] at hfl; rw [hfl] at hll'; cases hll'
      have f2 : tp ≠ ll := fun q => by rw [q, e1 _ _ hll'] at htp; cases htp
      have f3 : t2 ≠ ll := fun q => by rw [q, (e1.tr e2) _ _ hll'] at ht2; cases ht2
      refine ⟨t2, .ref tp, rfl, by rw [del_ne f3]; exact upd_same, tp, .ref fl, rfl, by rw [del_ne f2]; exact e3 _ _ upd_same, fl, ls, rfl, by rw [del_ne f1]; exact hls, Paired.mono2 hlp fun v s ⟨a, q1, q2⟩ => ⟨a, q1, ?_⟩⟩
      have q3 := del_ex _ _ q2
      rw [del_ne (fun q => by rw [q, hall] at q3; cases q3)]
      exact q3
end
end TW
set_option Elab.async false
set_option linter.all false
set_option maxRecDepth 100000
set_option maxHeartbeats 4000000
namespace TW
open PySem PySem.Spec PyProof.Rows L2
open Vaglrc (Sym Rule Grammar Node)
open TR (GOk SOk symTake ruleTake)
section
variable {P : Program} {w : World} {K : PySem.W.Frag} {mg : Str → Option Value} {base : Heap} {G : Addr}
def sp_grammar_of (G : Addr) : Sp := fun vs H Q _ => ∃ (rv : V) (xs : List Nat), vs = [rv] ∧ NatsV H rv xs ∧ (Vaglrc.readGrammar xs = none → ∀ H', Ex H H' → Q .non H') ∧ ∀ g H' v, Vaglrc.readGrammar xs = some g → Ex H H' → GramV G H' v g → Q v H'
abbrev s_grammar_of : Stmt := topS 13
/-- 0 row, 1 rules, 2 place, 3 turn, 4 found -/
theorem sc_grammar_of : FnScope ["row", "rules", "place", "turn", "found"] ["row"] (defScope s_grammar_of) := ⟨rfl, rfl, rfl, by decide +kernel, rfl, by decide +kernel, by decide +kernel⟩
theorem ok_grammar_of {f : Addr} {fd : FuncData} (F : Fun K "grammar_of" "grammar_of" s_grammar_of f fd) (T : Glob mg) (F_rule_at : FnC P w K mg base CX0 2 "rule_at" ["row", "at", "many"] sp_rule_at) (M_Grammar : MkC P w K mg base CX0 1 "Grammar" G ["self", "many", "rules"] (sp_Grammar_init G)) : FnOk P w K mg base CX0 3 f fd ["row"] (sp_grammar_of G) := by
  refine F.ok sc_grammar_of (fun vs H Q E h => ?_) (fun cdv A outer s H vs Q E hr h => ?_)
  · obtain ⟨_, _, rfl, _⟩ := h
    rfl
  · obtain ⟨rv, xs, rfl, ⟨rl, rfl, hrl⟩, ret0, ret1⟩ := h
    rw [TR.readGrammar_eq] at ret0
    simp only [TR.readGrammar_eq] at ret1
    refine ⟨_, (pss_cons (ps_if (PW.pt (pw_or (pt_cmpR op_lt (pe_callB call_len_seq (by rfl) T.len (by decide +kernel) (pa_cons (pv 0) pa_nil)) pe_int (nomark _)) (pw_or (pt_not (pt_chain op_le op_le pe_int (pe_ix ix_list (pv 0) pe_int (fun _ _ => rfl)) (pe_gi T.MOST_NONTERMINALS))) (pw_or1 (pt_cmpR op_gt (pe_ix ix_list (pv 0) pe_int (fun _ _ => rfl)) (pe_gi T.MOST_RULES) (nomark _))))))
    (pss_one (ps_ret pe_non))
    pss_nil)
    (pss_cons (ps_set (i := 1) sc_grammar_of.nd rfl (Or.inl rfl) (pe_lst pa_nil))
    (pss_cons (ps_set (i := 2) sc_grammar_of.nd rfl (Or.inl rfl) pe_int)
    (pss_cons (ps_for PassesOwn.never rfl (pi_range1 (by rfl) T.range (pa_cons (pe_ix ix_list (pv 0) pe_int (fun _ _ => rfl)) pa_nil)) (pg_name (i := 3) sc_grammar_of.nd rfl (Or.inl rfl))
    (pss_cons (ps_set (i := 4) sc_grammar_of.nd rfl (Or.inl rfl) (pe_fc F_rule_at (hr.mono (by decide)) pass0 (pa_cons (pv 0) (pa_cons (pv 2) (pa_cons (pe_ix ix_list (pv 0) pe_int (fun _ _ => rfl)) pa_nil)))))
    (pss_cons (ps_if (pt_cmpR op_isN (pv 4) pe_non (nomark _))
    (pss_one (ps_ret pe_non))
    pss_nil)
    (pss_cons (ps_expr (pe_bm PySem.F.plainAttrs_list PySem.F.slot_list_append PySem.F.type_list_append mt_append (pv 1) (pa_cons (pe_ix ix_tup (pv 4) pe_int (fun _ _ => rfl)) pa_nil)))
    (pss_one (ps_set (i := 2) sc_grammar_of.nd rfl (Or.inl rfl) (pe_ix ix_tup (pv 4) pe_int (fun _ _ => rfl))))))))
    (pss_cons (ps_if (pt_cmpR op_ne (pv 2) (pe_callB call_len_seq (by rfl) T.len (by decide +kernel) (pa_cons (pv 0) pa_nil)) (nomark _))
    (pss_one (ps_ret pe_non))
    pss_nil)
    (pss_one (ps_ret (pe_mkc M_Grammar (hr.mono (by decide)) pass0 (pa_cons (pe_ix ix_list (pv 0) pe_int (fun _ _ => rfl)) (pa_cons (pv 1) pa_nil)))))))))), ?_⟩
    refine ⟨_, rfl, rl, _, rfl, .inl (SqL.of hrl), _, _, rfl, rfl, _, rfl, ?_⟩
    rw [List.length_map]
    show if decide ((xs.length : Int) < ((2 : Nat) : Int)) = true then _ else _
    rw [int_lt]
    match xs, hrl, ret0, ret1 with
    | [], hrl, ret0, ret1 => exact iteT (ret0 rfl H (Ex.refl H))
    | [_], hrl, ret0, ret1 => exact iteT (ret0 rfl H (Ex.refl H))
    | n :: m :: r, hrl, ret0, ret1 =>
      rw [decide_eq_false (by simp)]
      refine iteF ?_
      refine ⟨_, rfl, rl, _, _, _, rfl, rfl, SqL.of hrl, atI_nat (j := 0) rfl, _, _, rfl, rfl, _, rfl, ?_⟩
      show if decide (((1 : Nat) : Int) ≤ (n : Int)) = true then _ else _
      rw [int_le]
      have hret0 : ¬ (1 ≤ n ∧ n ≤ 20 ∧ m ≤ 60) → ∀ H', Ex H H' → Q .non H' := fun h => by
        refine ret0 ?_
        simp only
        rw [if_neg h]
      by_cases h1 : 1 ≤ n
      · rw [decide_eq_true h1]
        refine iteT ?_
        refine ⟨_, _, rfl, rfl, _, rfl, ?_⟩
        show if (!decide ((n : Int) ≤ ((20 : Nat) : Int))) = true then _ else _
        rw [int_le]
        by_cases h2 : n ≤ 20
        · rw [decide_eq_true h2]
          refine iteF ?_
          refine ⟨_, rfl, rl, _, _, _, rfl, rfl, SqL.of hrl, atI_nat (j := 1) rfl, _, _, rfl, rfl, _, rfl, ?_⟩
          show if decide (((60 : Nat) : Int) < (m : Int)) = true then _ else _
          rw [int_lt]
          by_cases h3 : 60 < m
          · rw [decide_eq_true h3]
            exact iteT (hret0 (by omega) H (Ex.refl H))
          · rw [decide_eq_false h3]
            refine iteF ?_
            simp only [if_pos (show 1 ≤ n ∧ n ≤ 20 ∧ m ≤ 60 by omega)] at ret0 ret1
            refine ⟨nil_line, fun fl hfl => ?_⟩
            have e0 := Ex.new (o := .lst []) hfl
            refine ⟨_, rfl, rl, _, _, _, rfl, rfl, SqL.of (e0 _ _ hrl), atI_nat (j := 1) rfl, _, rfl, by omega, by omega, for_range (fun i σ H' => ∃ (p : Nat) (l : List Rule) (v3 v4 : Option V), σ = [some (.ref rl), some (.ref fl), some (vN p), v3, v4] ∧ Ex H H' ∧ MList RuleV H' fl (l.map fun q => (q, (-1 : Int))) ∧ l.length = i ∧ p ≤ (n :: m :: r).length ∧
              Vaglrc.readRules n m r = (Vaglrc.readRules n (m - i) ((n :: m :: r).drop p)).map fun y => (l ++ y.1, y.2)) ⟨2, [], none, none, rfl, e0, MList.new hfl, rfl, by simp, ?_⟩ ?_ ?_⟩
            · simp
            · rintro i σ H1 hi ⟨p, l, v3, v4, rfl, e1, ⟨ls, hls, hlp⟩, hll, hp, hrd⟩
              rw [show m - i = (m - (i + 1)) + 1 by omega, TR.readRules_succ] at hrd
              refine ⟨_, rfl, _, rfl, _, rfl, rl, _, _, _, rfl, rfl, SqL.of (e1 _ _ hrl), atI_nat (j := 0) rfl, .ref rl, n :: m :: r, p, n, rfl, ⟨rl, rfl, e1 _ _ hrl⟩, hp, fun hst H2 e2 => ?_, fun q r' p' H2 v hst hr' hp' e2 hv hvd => ?_⟩
              · rw [hst] at hrd
                refine ⟨_, rfl, rfl, _, rfl, iteT ?_⟩
                exact ret0 (by rw [hrd]; rfl) H2 (e1.tr e2)
              · obtain ⟨tp, q', rfl, htp, hq⟩ := hv
                obtain ⟨tp', q2, hee, htp', hq'⟩ := hvd fl ls hls
                cases hee
                rw [del_ex _ _ htp'] at htp
                cases htp
                refine ⟨_, rfl, rfl, _, rfl, iteF ?_⟩
                rw [hst] at hrd
                have hls2 := e2 _ _ hls
                have htf : tp ≠ fl := fun q => by rw [q, del_same] at htp'; cases htp'
                have htp := del_ex _ _ htp'
                refine ⟨_, rfl, .inl ⟨rfl, _, SqL.of hls2⟩, _, rfl, tp, _, _, _, rfl, rfl, SqT.of htp, atI_nat (j := 0) rfl, fl, ls, _, rfl, rfl, hls2, small_lt (by rw [Paired.len hlp, List.length_map]; omega), ?_⟩
                refine ⟨_, rfl, tp, _, _, _, rfl, rfl, SqT.of (by rw [upd_ne htf]; exact htp), atI_nat (j := 1) rfl, p', l ++ [q], _, _, rfl, (e1.tr e2).mut hfl, ?_, by rw [List.length_append, hll]; rfl, hp', ?_⟩
                · rw [List.map_append]
                  exact MList.snoc hls2 (Paired.mono2 hlp fun v s q => RuleV.mono (del_mono e2) q) hq'
                · rw [hrd, hr']
                  simp only
                  cases Vaglrc.readRules n (m - (i + 1)) ((n :: m :: r).drop p') <;> simp
            · rintro σ H1 ⟨p, l, v3, v4, rfl, e1, hM, hll, hp, hrd⟩
              have hrd2 : Vaglrc.readRules n m r = some (l, (n :: m :: r).drop p) := by
                rw [hrd]
                have : m - (((m : Nat) : Int) : Int).toNat = 0 := by rw [Int.toNat_natCast]; omega
                simp [TR.readRules_zero]
              simp only [hrd2] at ret0 ret1
              refine ⟨_, rfl, _, rfl, rl, _, rfl, .inl (SqL.of (e1 _ _ hrl)), rfl, _, rfl, ?_⟩
              rw [List.length_map]
              rw [show decide (vN p = V.int ((n :: m :: r).length : Int)) = decide (p = (n :: m :: r).length) from int_eq]
              by_cases hpl : p = (n :: m :: r).length
              · rw [decide_eq_true hpl]
                refine iteF ?_
                rw [hpl, List.drop_length] at ret1
                refine ⟨_, rfl, rl, _, _, _, rfl, rfl, SqL.of (e1 _ _ hrl), atI_nat (j := 0) rfl, _, rfl, ?_⟩
                intro x dx hx hdx hne
                have e3 : Ex H1 (upd (upd H1 dx (.own x)) x (.ins G dx [])) := (Ex.new hdx).mut hx
                refine ⟨x, dx, vN n, .ref fl, rfl, upd_same, fun H3 fs e4 h3 l1 l2 => ⟨rfl, ?_⟩⟩
                have e6 : Ex H1 H3 := (ex_del e3 hx).tr e4
                refine ret1 _ H3 _ rfl (e1.tr e6) ⟨x, dx, fs, _, rfl, h3, l1, l2, ?_⟩
                exact RulesV.mono e6 (MList.toV (fun _ _ _ _ => RuleV.mono) hM)
              · rw [decide_eq_false hpl]
                refine iteT (ret0 ?_ H1 e1)
                cases hdd : (n :: m :: r).drop p with
                | nil =>
                  have := List.drop_eq_nil_iff.mp hdd
                  omega
                | cons _ _ => rfl
        · rw [decide_eq_false h2]
          exact iteT (hret0 (by omega) H (Ex.refl H))
      · rw [decide_eq_false h1]
        refine iteF ?_
        refine ⟨_, rfl, ?_⟩
        exact iteT (hret0 (by omega) H (Ex.refl H))
end
end TW
set_option Elab.async false
set_option linter.all false
set_option maxRecDepth 100000
set_option maxHeartbeats 4000000
namespace TW
open PySem PySem.Spec PyProof.Rows L2
open Vaglrc (Sym Rule Grammar Node)
open Vaglrj (State Held)
/-- the class Holder -/
structure HCls (K : PySem.W.Frag) (Ho : Addr) : Prop where
  cls : Cls K Ho
  grammar : NoAttr K Ho "grammar"
  rewritings : NoAttr K Ho "rewritings"
  held : NoAttr K Ho "held"
  before : NoAttr K Ho "before"
def HeldV1 (H : Hp) (v : V) (h : Held) : Prop := ∃ a q, v = .ref a ∧ H a = some (.tup [vN h.non, q]) ∧ NatsV H q h.term
theorem HeldV1.mono {H H' : Hp} {v : V} {h : Held} (e : Ex H H') (q : HeldV1 H v h) : HeldV1 H' v h := by
  obtain ⟨a, t, h1, h2, h3⟩ := q
  exact ⟨a, t, h1, e _ _ h2, h3.mono e⟩
def HeldV (H : Hp) (v : V) : Option Held → Prop
  | none => v = .non
  | some h => HeldV1 H v h
theorem HeldV.mono {H H' : Hp} {v : V} (e : Ex H H') : ∀ {h : Option Held}, HeldV H v h → HeldV H' v h
  | none, q => q
  | some _, q => HeldV1.mono e q
abbrev PastV : Hp → V → List Held → Prop := ListV HeldV1
theorem PastV.mono {H H' : Hp} {v : V} {h : List Held} (e : Ex H H') (q : PastV H v h) : PastV H' v h := ListV.mono (P := HeldV1) (fun _ _ _ _ => HeldV1.mono) e q
def hfs (gv wv hv bv : V) : List (Str × V) := [(("grammar" : Str), gv), (("rewritings" : Str), wv), (("held" : Str), hv), (("before" : Str), bv)]
/-- the holder's object, its state's parts apart from it -/
def HoldV (G Ho : Addr) (H : Hp) (a dx : Addr) (s : State) : Prop := ∃ gv wv hv bv, H a = some (.ins Ho dx (hfs gv wv hv bv)) ∧ GramV G (del H a) gv s.grammar ∧ RwsV (del H a) wv s.rules ∧ HeldV (del H a) hv s.held ∧ PastV (del H a) bv s.past
theorem HoldV.mono {G Ho : Addr} {H H' : Hp} {a dx : Addr} {s : State} (e : Ex H H') (h : HoldV G Ho H a dx s) : HoldV G Ho H' a dx s := by
  obtain ⟨gv, wv, hv, bv, h1, h2, h3, h4, h5⟩ := h
  exact ⟨gv, wv, hv, bv, e _ _ h1, h2.mono (del_mono e), h3.mono (del_mono e), h4.mono (del_mono e), h5.mono (del_mono e)⟩
section
variable {P : Program} {w : World} {K : PySem.W.Frag} {mg : Str → Option Value} {base : Heap} {G Ho : Addr}
def sp_Holder_init (G Ho : Addr) : Sp := fun vs H Q _ => ∃ (x dx : Addr), vs = [.ref x] ∧ H x = some (.ins Ho dx []) ∧ ∀ H', Ex (del H x) H' → HoldV G Ho H' x dx Vaglrj.start → Q .non H'
abbrev s_Holder_init : Stmt := inClass (topS 64) 0
/-- 0 self -/
theorem sc_Holder_init : FnScope ["self"] ["self"] (defScope s_Holder_init) := ⟨rfl, rfl, rfl, by decide +kernel, rfl, by decide +kernel, by decide +kernel⟩
theorem ok_Holder_init {f : Addr} {fd : FuncData} (F : Fun K "__init__" "Holder.__init__" s_Holder_init f fd) (T : Glob mg) (Hc : HCls K Ho) (M_Grammar : MkC P w K mg base CX0 1 "Grammar" G ["self", "many", "rules"] (sp_Grammar_init G)) : FnOk P w K mg base CX0 3 f fd ["self"] (sp_Holder_init G Ho) := by
  refine F.ok sc_Holder_init (fun vs H Q E h => ?_) (fun cdv A outer s H vs Q E hr h => ?_)
  · obtain ⟨_, _, rfl, _⟩ := h
    rfl
  · obtain ⟨x, dx, rfl, hx, ret⟩ := h
    refine ⟨_, (pss_cons (ps_fld (pv 0) (pe_mkc M_Grammar (hr.mono (by decide)) pass0 (pa_cons pe_int (pa_cons (pe_lst pa_nil) pa_nil))) rfl)
    (pss_cons (ps_fld (pv 0) (pe_lst pa_nil) rfl)
    (pss_cons (ps_fld (pv 0) pe_non rfl)
    (pss_one (ps_fld (pv 0) (pe_lst pa_nil) rfl))))), ?_⟩
    refine ⟨nil_line, fun l0 hl0 => ?_⟩
    intro gx gdx hgx hgdx hgne
    have e1 : Ex H (upd H l0 (.lst [])) := Ex.new hl0
    have h1 : upd H l0 (.lst []) l0 = some (.lst []) := upd_same
    generalize upd H l0 (.lst []) = H1 at e1 h1 hgx hgdx
    have e3 : Ex H1 (upd (upd H1 gdx (.own gx)) gx (.ins G gdx [])) := (Ex.new hgdx).mut hgx
    refine ⟨gx, gdx, vN 1, .ref l0, rfl, upd_same, fun H2 gfs e4 h3 l1 l2 => ⟨rfl, ?_⟩⟩
    have e6 : Ex H1 H2 := (ex_del e3 hgx).tr e4
    have e02 := e1.tr e6
    have hx2 := e02 _ _ hx
    have hgx0 : gx ≠ x := fun q => by rw [q, e1 _ _ hx] at hgx; cases hgx
    have hl00 : l0 ≠ x := fun q => by rw [q, hx] at hl0; cases hl0
    have key : ∀ (Hf : Hp) (l3 l5 : Addr), Hf x = some (.ins Ho dx (hfs (.ref gx) (.ref l3) .non (.ref l5))) → Ex (del H2 x) (del Hf x) → del Hf x l3 = some (.lst []) → del Hf x l5 = some (.lst []) → Q .non Hf := fun Hf l3 l5 q1 q2 q3 q4 => by
      refine ret Hf ((del_mono e02).tr (q2.tr del_ex)) ⟨_, _, _, _, q1, ⟨gx, gdx, gfs, .ref l0, rfl, q2 _ _ (by rw [del_ne hgx0]; exact h3), l1, l2, l0, [], rfl, q2 _ _ (by rw [del_ne hl00]; exact e6 _ _ h1), .nil⟩, ⟨l3, [], rfl, q3, .nil⟩, rfl, ⟨l5, [], rfl, q4, .nil⟩⟩
    refine ⟨_, rfl, x, Ho, dx, [], rfl, hx2, Hc.cls, Hc.grammar, by decide, ?_⟩
    refine ⟨nil_line, fun l3 hl3 => ⟨_, rfl, x, Ho, dx, _, rfl, (Ex.new hl3) _ _ upd_same, Hc.cls, Hc.rewritings, (show 1 < 1000 by decide), ?_⟩⟩
    refine ⟨_, rfl, x, Ho, dx, _, rfl, upd_same, Hc.cls, Hc.held, (show 2 < 1000 by decide), ?_⟩
    refine ⟨nil_line, fun l5 hl5 => ⟨_, rfl, x, Ho, dx, _, rfl, (Ex.new hl5) _ _ upd_same, Hc.cls, Hc.before, (show 3 < 1000 by decide), ?_⟩⟩
    have n3 : l3 ≠ x := fun q => by rw [q, upd_same] at hl3; cases hl3
    have n5 : l5 ≠ x := fun q => by rw [q, upd_same] at hl5; cases hl5
    have n35 : l3 ≠ l5 := fun q => by
      rw [← q, upd_ne n3, upd_ne n3, upd_same] at hl5; cases hl5
    refine key _ l3 l5 upd_same ?_ ?_ ?_
    · rw [del_upd_eq]
      refine Ex.tr ?_ (del_mono (Ex.new hl5))
      rw [del_upd_eq, del_upd_eq]
      refine Ex.tr ?_ (del_mono (Ex.new hl3))
      rw [del_upd_eq]
      exact Ex.refl _
    · rw [del_ne n3, upd_ne n3, upd_ne n35, upd_ne n3, upd_ne n3, upd_same]
    · rw [del_ne n5, upd_ne n5, upd_same]
end
end TW
set_option Elab.async false
set_option linter.all false
set_option maxRecDepth 100000
set_option maxHeartbeats 4000000
namespace TW
open PySem PySem.Spec PyProof.Rows L2
open Vaglrc (Sym Rule Grammar Node)
open Vaglrj (State Held)
theorem paired_take {α β : Type} {F : α → β → Prop} : ∀ (n : Nat) {l : List α} {m : List β}, Paired F l m → Paired F (l.take n) (m.take n)
  | 0, _, _, _ => .nil
  | n + 1, _, _, .nil => .nil
  | n + 1, _, _, .cons r h => .cons r (paired_take n h)
section
variable {P : Program} {w : World} {K : PySem.W.Frag} {mg : Str → Option Value} {base : Heap} {G Ho : Addr}
def sp_Holder_hold (G Ho : Addr) : Sp := fun vs H Q _ => ∃ (a dx : Addr) (tv : V) (s : State) (h : Held), vs = [.ref a, vN h.non, tv] ∧ HoldV G Ho H a dx s ∧ NatsV (del H a) tv h.term ∧ s.past.length ≤ 16 ∧ ∀ H', Ex (del H a) (del H' a) → HoldV G Ho H' a dx (Vaglrj.hold s h) → Q .non H'
abbrev s_Holder_hold : Stmt := inClass (topS 64) 1
/-- 0 self, 1 nonterminal, 2 term -/
theorem sc_Holder_hold : FnScope ["self", "nonterminal", "term"] ["self", "nonterminal", "term"] (defScope s_Holder_hold) := ⟨rfl, rfl, rfl, by decide +kernel, rfl, by decide +kernel, by decide +kernel⟩
theorem ok_Holder_hold {f : Addr} {fd : FuncData} (F : Fun K "hold" "Holder.hold" s_Holder_hold f fd) (T : Glob mg) (Hc : HCls K Ho) : FnOk P w K mg base CX0 1 f fd ["self", "nonterminal", "term"] (sp_Holder_hold G Ho) := by
  refine F.ok sc_Holder_hold (fun vs H Q E h => ?_) (fun cdv A outer s H vs Q E hr h => ?_)
  · obtain ⟨_, _, _, _, _, rfl, _⟩ := h
    rfl
  · obtain ⟨a, dx, tv, st, hh, rfl, ⟨gv, wv, hv, bv, ha, hg, hw, hhe, hb⟩, ht, hp16, ret⟩ := h
    refine ⟨_, (pss_cons (ps_if (pt_cmpR op_notN (pe_fld (pv 0) rfl) pe_non (nomark _))
    (pss_one (ps_fld (pv 0) (pe_slice sl_list (pe_op op_cat (pe_lst (pa_cons (pe_fld (pv 0) rfl) pa_nil)) (pe_fld (pv 0) rfl)) po_none (po_some (pe_gi T.MOST_BEFORE))) rfl))
    pss_nil)
    (pss_one (ps_fld (pv 0) (pe_tup (pa_cons (pv 1) (pa_cons (pv 2) pa_nil))) rfl))), ?_⟩
    refine ⟨_, rfl, a, Ho, dx, _, _, rfl, ha, Hc.cls, Hc.held, rfl, rfl, _, rfl, ?_⟩
    cases hst : st.held with
    | none =>
      rw [hst] at hhe
      obtain rfl : hv = .non := hhe
      refine iteF ?_
      refine ⟨_, rfl, _, rfl, two_line, fun tp htp => ?_⟩
      have e1 := Ex.new (o := .tup [vN hh.non, tv]) htp
      have ntp : tp ≠ a := fun q => by rw [q, ha] at htp; cases htp
      refine ⟨_, rfl, a, Ho, dx, _, rfl, e1 _ _ ha, Hc.cls, Hc.held, (show 4 < 1000 by decide), ?_⟩
      have e2 : Ex (del H a) (del (upd (upd H tp (.tup [vN hh.non, tv])) a (.ins Ho dx (putF "held" (.ref tp) (hfs gv wv .non bv)))) a) := by rw [del_upd_eq]; exact del_mono e1
      refine ret _ e2 ⟨gv, wv, .ref tp, bv, upd_same, hg.mono e2, hw.mono e2, ⟨tp, tv, rfl, ?_, ht.mono e2⟩, ?_⟩
      · rw [del_ne ntp, upd_ne ntp, upd_same]
      · unfold Vaglrj.hold; rw [hst]; exact hb.mono e2
    | some o =>
      rw [hst] at hhe
      obtain ⟨ha', hq, rfl, hho, hhq⟩ := hhe
      refine iteT ?_
      obtain ⟨bl, bvs, rfl, hbl, hbp⟩ := hb
      have hbl' := del_ex _ _ hbl
      refine ⟨_, rfl, a, Ho, dx, _, _, rfl, ha, Hc.cls, Hc.held, rfl, one_line, fun l1 hl1 => ?_⟩
      have e1 := Ex.new (o := .lst [.ref ha']) hl1
      refine ⟨_, rfl, a, Ho, dx, _, _, rfl, e1 _ _ ha, Hc.cls, Hc.before, rfl, l1, bl, _, _, rfl, rfl, upd_same, e1 _ _ hbl', Nat.le_of_lt (small_lt ?_), fun l2 hl2 => ?_⟩
      · rw [Paired.len hbp]; simp; omega
      have e2 := e1.tr (Ex.new (o := .lst ([.ref ha'] ++ bvs)) hl2)
      refine ⟨_, rfl, l2, _, rfl, SqL.of upd_same, fun l3 hl3 => ?_⟩
      have hcut : cutV ([V.ref ha'] ++ bvs) none (some ((16 : Nat) : Int)) = ([V.ref ha'] ++ bvs).take 16 := cutV_to
      have e3 := e2.tr (Ex.new (o := .lst (cutV ([V.ref ha'] ++ bvs) none (some ((16 : Nat) : Int)))) hl3)
      have n3 : l3 ≠ a := fun q => by rw [q, e2 _ _ ha] at hl3; cases hl3
      refine ⟨_, rfl, a, Ho, dx, _, rfl, e3 _ _ ha, Hc.cls, Hc.before, (show 4 < 1000 by decide), ?_⟩
      refine ⟨_, rfl, _, rfl, two_line, fun tp htp => ?_⟩
      have ntp : tp ≠ a := fun q => by rw [q, upd_same] at htp; cases htp
      have n3t : l3 ≠ tp := fun q => by rw [← q, upd_ne n3, upd_same] at htp; cases htp
      refine ⟨_, rfl, a, Ho, dx, _, rfl, (Ex.new htp) _ _ upd_same, Hc.cls, Hc.held, (show 4 < 1000 by decide), ?_⟩
      have key : ∀ (Hf : Hp), Hf a = some (.ins Ho dx (hfs gv wv (.ref tp) (.ref l3))) → Ex (del H a) (del Hf a) → del Hf a tp = some (.tup [vN hh.non, tv]) → del Hf a l3 = some (.lst (([V.ref ha'] ++ bvs).take 16)) → Q .non Hf := fun Hf q1 q2 q3 q4 => by
        refine ret Hf q2 ⟨gv, wv, .ref tp, .ref l3, q1, hg.mono q2, hw.mono q2, ⟨tp, tv, rfl, q3, ht.mono q2⟩, l3, _, rfl, q4, ?_⟩
        unfold Vaglrj.hold
        rw [hst]
        show Paired _ _ ((o :: st.past).take 16)
        exact paired_take 16 (.cons ⟨ha', hq, rfl, q2 _ _ hho, hhq.mono q2⟩ (Paired.mono2 hbp fun v x q => HeldV1.mono q2 q))
      refine key _ upd_same ?_ ?_ ?_
      · rw [del_upd_eq]
        refine Ex.tr ?_ (del_mono (Ex.new htp))
        rw [del_upd_eq]
        exact del_mono e3
      · rw [del_ne ntp, upd_ne ntp, upd_same]
      · rw [del_ne n3, upd_ne n3, upd_ne n3t, upd_ne n3, upd_same, ← hcut]; rfl
end
end TW
set_option Elab.async false
set_option linter.all false
set_option maxRecDepth 100000
set_option maxHeartbeats 4000000
namespace TW
open PySem PySem.Spec PyProof.Rows L2
open Vaglrc (Sym Rule Grammar Node)
open Vaglrj (State Held)
/-- a method of the class at Ho -/
structure MthC (P : Program) (w : World) (K : PySem.W.Frag) (mg : Str → Option Value) (base : Heap) (CX : CXT) (k : Nat) (Ho : Addr) (m : Str) (ps : List Str) (sp : Sp) : Prop where
  ex : ∃ (f : Addr) (fd : FuncData), Cls K Ho ∧ Meth K Ho m f ∧ Binds K fd ps [] ∧ FnOk P w K mg base CX k f fd ps sp
section
variable {X : Cx}
theorem pe_mc {CX : CXT} {k : Nat} {Ho : Addr} {m : Str} {ps : List Str} {sp : Sp} {E : XK} {o e : Expr} {es : List Expr} {ta : TE} {t : TA} {apos pos : Pos} {pl : Sem Bool} (he : PE X o ta) (M : MthC X.prog X.w X.K X.mg X.base CX k Ho m ps sp) (hr : Room k X.A) (hx : Passes CX X E) (ha : PA X (e :: es) t)
    (hst : starEach (e :: es) X.env = (false, eval e X.env) :: starEach es X.env := by rfl) (hpl : (backTo pos (starEach es X.env)).any (·.1) = false := by rfl)
    (ht : eval (.Call (.Attribute o m apos) (e :: es) [] pos) X.env = (do
      let ov ← eval o X.env
      standAt apos.atName
      let (f, first) ← holding [ov] (getMethod ov m pl)
      callWith pos f first (backTo pos (starEach (e :: es) X.env)) (backToKw pos (keywordEach [] X.env))) := by rfl) :
    PE X (.Call (.Attribute o m apos) (e :: es) [] pos) (tMeth Ho m sp [] E ta t) := by
  obtain ⟨f, fd, hc, hm, hb, F⟩ := M.ex
  exact pe_meth (pl := pl) he hc hm F hr hb .nil hx ha hst hpl ht
theorem pe_mc0 {CX : CXT} {k : Nat} {Ho : Addr} {m : Str} {ps : List Str} {sp : Sp} {E : XK} {o : Expr} {ta : TE} {apos pos : Pos} {pl : Sem Bool} (he : PE X o ta) (M : MthC X.prog X.w X.K X.mg X.base CX k Ho m ps sp) (hr : Room k X.A) (hx : Passes CX X E)
    (ht : eval (.Call (.Attribute o m apos) [] [] pos) X.env = (do
      let ov ← eval o X.env
      standAt apos.atName
      let (f, first) ← holding [ov] (getMethod ov m pl)
      callWith pos f first (backTo pos (starEach [] X.env)) (backToKw pos (keywordEach [] X.env))) := by rfl) :
    PE X (.Call (.Attribute o m apos) [] [] pos) (tMeth Ho m sp [] E ta tNil) := by
  obtain ⟨f, fd, hc, hm, hb, F⟩ := M.ex
  exact pe_meth0 (pl := pl) he hc hm F hr hb .nil hx ht
end
section
variable {P : Program} {w : World} {K : PySem.W.Frag} {mg : Str → Option Value} {base : Heap} {C fI G Ho L : Addr}
def sp_Holder_held_term (C G Ho : Addr) : Sp := fun vs H Q E => ∃ (a dx : Addr) (s : State), vs = [.ref a] ∧ HoldV G Ho H a dx s ∧ (s.held = none → Rz E C H (-9)) ∧ ∀ h v, s.held = some h → NatsV (del H a) v h.term → Q v H
abbrev s_Holder_held_term : Stmt := inClass (topS 64) 2
/-- 0 self -/
theorem sc_Holder_held_term : FnScope ["self"] ["self"] (defScope s_Holder_held_term) := ⟨rfl, rfl, rfl, by decide +kernel, rfl, by decide +kernel, by decide +kernel⟩
theorem ok_Holder_held_term {f : Addr} {fd : FuncData} (F : Fun K "held_term" "Holder.held_term" s_Holder_held_term f fd) (T : Glob mg) (Hc : HCls K Ho) (Rf : PySem.RfX.RfTxt K mg C fI) : FnOk P w K mg base (L2.CX P w) 2 f fd ["self"] (sp_Holder_held_term C G Ho) := by
  refine F.okX sc_Holder_held_term (fun vs H Q E h => ?_) (fun cdv A outer s H vs Q E hr h => ?_)
  · obtain ⟨_, _, _, rfl, _⟩ := h
    rfl
  · obtain ⟨a, dx, st, rfl, ⟨gv, wv, hv, bv, ha, hg, hw, hhe, hb⟩, ret0, ret1⟩ := h
    refine ⟨_, (pss_cons (ps_if (pt_cmpR op_isN (pe_fld (pv 0) rfl) pe_non (nomark _))
    (pss_one (ps_raiseRf (k := 1) rfl Rf (hr.mono (by decide)) (takes_of rfl rfl rfl rfl) (by exact (pa_cons (pe_un un_neg pe_int) pa_nil))))
    pss_nil)
    (pss_one (ps_ret (pe_ix ix_tup (pe_fld (pv 0) rfl) pe_int (fun _ _ => rfl))))), ?_⟩
    refine ⟨_, rfl, a, Ho, dx, _, _, rfl, ha, Hc.cls, Hc.held, rfl, rfl, _, rfl, ?_⟩
    cases hst : st.held with
    | none =>
      rw [hst] at hhe
      obtain rfl : hv = .non := hhe
      refine iteT ?_
      exact ⟨_, rfl, _, rfl, fun d hd => (ret0 hst).go d hd⟩
    | some o =>
      rw [hst] at hhe
      obtain ⟨ha', hq, rfl, hho, hhq⟩ := hhe
      refine iteF ?_
      refine ⟨_, rfl, a, Ho, dx, _, _, rfl, ha, Hc.cls, Hc.held, rfl, ha', _, _, _, rfl, rfl, SqT.of (del_ex _ _ hho), atI_nat (j := 1) rfl, ret1 o _ hst hhq⟩
end
end TW
set_option Elab.async false
set_option linter.all false
set_option maxRecDepth 100000
set_option maxHeartbeats 4000000
namespace TW
open PySem PySem.Spec PyProof.Rows L2
open Vaglrc (Sym Rule Grammar Node)
open Vaglrj (State Held)
open TR (StOk kindsT Go NoHole GOk)
section
variable {P : Program} {w : World} {K : PySem.W.Frag} {mg : Str → Option Value} {base : Heap} {C fI G Ho L : Addr}
def sp_Holder_held_laid (C G Ho L : Addr) : Sp := fun vs H Q E => ∃ (a dx : Addr) (s : State), vs = [.ref a] ∧ HoldV G Ho H a dx s ∧ StOk s ∧ (s.held = none → Rz E C H (-9)) ∧ ∀ h v H', s.held = some h → Ex H H' → LaidV L H' v s.grammar h.non h.term → Q v H'
abbrev s_Holder_held_laid : Stmt := inClass (topS 64) 3
/-- 0 self -/
theorem sc_Holder_held_laid : FnScope ["self"] ["self"] (defScope s_Holder_held_laid) := ⟨rfl, rfl, rfl, by decide +kernel, rfl, by decide +kernel, by decide +kernel⟩
theorem ok_Holder_held_laid {f : Addr} {fd : FuncData} (F : Fun K "held_laid" "Holder.held_laid" s_Holder_held_laid f fd) (T : Glob mg) (Hc : HCls K Ho) (Gc : GCls K G) (F_laid_out : FnC P w K mg base CX0 3 "laid_out" ["rules", "numbers"] (sp_laid_out L)) (F_Holder_held_term : MthC P w K mg base (L2.CX P w) 2 Ho "held_term" ["self"] (sp_Holder_held_term C G Ho)) : FnOk P w K mg base (L2.CX P w) 4 f fd ["self"] (sp_Holder_held_laid C G Ho L) := by
  refine F.okX sc_Holder_held_laid (fun vs H Q E h => ?_) (fun cdv A outer s H vs Q E hr h => ?_)
  · obtain ⟨_, _, _, rfl, _⟩ := h
    rfl
  · obtain ⟨a, dx, st, rfl, hH, ok, ret0, ret1⟩ := h
    have hH0 := hH
    obtain ⟨gv, wv, hv, bv, ha, ⟨ga, gdx, gfs, grv, rfl, hga, hgm, hgr, hR⟩, hw, hhe, hb⟩ := hH
    refine ⟨_, (pss_one (ps_ret (pe_fc F_laid_out (hr.mono (by decide)) pass0 (pa_cons (pe_fld (pe_fld (pv 0) rfl) rfl) (pa_cons (pe_mc0 (pv 0) F_Holder_held_term (hr.mono (by decide)) (passX rfl rfl rfl rfl)) pa_nil))))), ?_⟩
    refine ⟨_, rfl, a, Ho, dx, _, _, rfl, ha, Hc.cls, Hc.grammar, rfl, ga, G, gdx, gfs, _, rfl, del_ex _ _ hga, Gc.cls, Gc.rules, hgr, _, rfl, a, dx, _, rfl, ha, rfl, a, dx, st, rfl, hH0, ret0, fun h v hst hn => ?_⟩
    have hk := ok.held h hst
    exact ⟨grv, v, st.grammar, h.term, h.non, rfl, hR.mono del_ex, ok.g, hn.mono del_ex, hk.go, hk.len, fun v' H' e' hv' => ret1 h v' H' hst e' hv'⟩
def sp_Holder_rewriting (C G Ho : Addr) : Sp := fun vs H Q E => ∃ (a dx : Addr) (s : State) (r : Int), vs = [.ref a, .int r] ∧ HoldV G Ho H a dx s ∧ (¬ (0 ≤ r ∧ r < s.rules.length) → Rz E C H (-8)) ∧ ∀ z v, 0 ≤ r → s.rules[r.toNat]? = some z → RwV (del H a) v z → Q v H
abbrev s_Holder_rewriting : Stmt := inClass (topS 64) 4
/-- 0 self, 1 r -/
theorem sc_Holder_rewriting : FnScope ["self", "r"] ["self", "r"] (defScope s_Holder_rewriting) := ⟨rfl, rfl, rfl, by decide +kernel, rfl, by decide +kernel, by decide +kernel⟩
theorem ok_Holder_rewriting {f : Addr} {fd : FuncData} (F : Fun K "rewriting" "Holder.rewriting" s_Holder_rewriting f fd) (T : Glob mg) (Hc : HCls K Ho) (Rf : PySem.RfX.RfTxt K mg C fI) : FnOk P w K mg base (L2.CX P w) 2 f fd ["self", "r"] (sp_Holder_rewriting C G Ho) := by
  refine F.okX sc_Holder_rewriting (fun vs H Q E h => ?_) (fun cdv A outer s H vs Q E hr h => ?_)
  · obtain ⟨_, _, _, _, rfl, _⟩ := h
    rfl
  · obtain ⟨a, dx, st, r, rfl, ⟨gv, wv, hv, bv, ha, hg, ⟨wl, wvs, rfl, hwl, hwp⟩, hhe, hb⟩, ret0, ret1⟩ := h
    have hwl' := del_ex _ _ hwl
    refine ⟨_, (pss_cons (ps_if (pt_not (pt_chain op_le op_lt pe_int (pv 1) (pe_callB call_len_seq (by rfl) T.len (by decide +kernel) (pa_cons (pe_fld (pv 0) rfl) pa_nil))))
    (pss_one (ps_raiseRf (k := 1) rfl Rf (hr.mono (by decide)) (takes_of rfl rfl rfl rfl) (by exact (pa_cons (pe_un un_neg pe_int) pa_nil))))
    pss_nil)
    (pss_one (ps_ret (pe_ix ix_list (pe_fld (pv 0) rfl) (pv 1) (fun _ _ => rfl))))), ?_⟩
    refine ⟨_, rfl, _, _, rfl, rfl, _, rfl, ?_⟩
    show if decide ((0 : Int) ≤ r) = true then _ else _
    by_cases h1 : 0 ≤ r
    · rw [decide_eq_true h1]
      refine iteT ?_
      refine ⟨_, rfl, a, Ho, dx, _, _, rfl, ha, Hc.cls, Hc.rewritings, rfl, wl, _, rfl, .inl (SqL.of hwl'), _, _, rfl, rfl, _, rfl, ?_⟩
      show if (!decide (r < (wvs.length : Int))) = true then _ else _
      have hlen := Paired.len hwp
      by_cases h2 : r < (wvs.length : Int)
      · rw [decide_eq_true h2]
        refine iteF ?_
        obtain ⟨v, hv'⟩ : ∃ v, wvs[r.toNat]? = some v := ⟨_, List.getElem?_eq_getElem (by omega)⟩
        obtain ⟨z, hz, hzv⟩ := Paired.at' hwp hv'
        have hat : atI wvs r = some v := by
          have := atI_nat hv'
          rwa [Int.toNat_of_nonneg h1] at this
        exact ⟨_, rfl, a, Ho, dx, _, _, rfl, ha, Hc.cls, Hc.rewritings, rfl, _, rfl, wl, _, _, _, rfl, rfl, SqL.of hwl', hat, ret1 z v h1 hz hzv⟩
      · rw [decide_eq_false h2]
        refine iteT ?_
        exact ⟨_, rfl, _, rfl, fun d hd => (ret0 (by omega)).go d hd⟩
    · rw [decide_eq_false h1]
      refine iteF ?_
      refine ⟨_, rfl, iteT ?_⟩
      exact ⟨_, rfl, _, rfl, fun d hd => (ret0 (by omega)).go d hd⟩
end
end TW
set_option Elab.async false
set_option linter.all false
set_option maxRecDepth 100000
set_option maxHeartbeats 4000000
namespace TW
open PySem PySem.Spec PyProof.Rows L2
open Vaglrc (Sym Rule Grammar Node)
open Vaglrj (State Held)
open TR (StOk kindsT Go NoHole GOk)
section
variable {P : Program} {w : World} {K : PySem.W.Frag} {mg : Str → Option Value} {base : Heap} {C fI G Ho L : Addr}
def sp_Holder_holes_of (C G Ho L : Addr) : Sp := fun vs H Q E => ∃ (a dx : Addr) (s : State) (lv wv : V) (h : Held) (z : Vaglrj.Rewrite) (i : Int), vs = [.ref a, lv, wv, .int i] ∧ HoldV G Ho H a dx s ∧ StOk s ∧ s.held = some h ∧ LaidV L H lv s.grammar h.non h.term ∧ RwV H wv z ∧ TR.RwOk s.grammar z ∧
  (¬ (0 ≤ i ∧ (kindsT s.grammar h.non h.term)[i.toNat]? = some true) → Rz E C H (-17)) ∧ (0 ≤ i → (kindsT s.grammar h.non h.term)[i.toNat]? = some true → Vaglrj.matchAt s.grammar z h.term i.toNat = none → ∀ H', Ex H H' → Q .non H') ∧
  ∀ b r H' v, 0 ≤ i → (kindsT s.grammar h.non h.term)[i.toNat]? = some true → Vaglrj.matchAt s.grammar z h.term i.toNat = some (b, r) → Ex H H' → MatV H' v b → Q v H'
abbrev s_Holder_holes_of : Stmt := inClass (topS 64) 5
/-- 0 self, 1 laid, 2 rewriting, 3 i -/
theorem sc_Holder_holes_of : FnScope ["self", "laid", "rewriting", "i"] ["self", "laid", "rewriting", "i"] (defScope s_Holder_holes_of) := ⟨rfl, rfl, rfl, by decide +kernel, rfl, by decide +kernel, by decide +kernel⟩
theorem ok_Holder_holes_of {f : Addr} {fd : FuncData} (F : Fun K "holes_of" "Holder.holes_of" s_Holder_holes_of f fd) (T : Glob mg) (Hc : HCls K Ho) (Gc : GCls K G) (Lc : LCls K L) (Rf : PySem.RfX.RfTxt K mg C fI) (F_holes_at : FnC P w K mg base CX0 3 "holes_at" ["rules", "laid", "rewriting", "at"] (sp_holes_at L)) : FnOk P w K mg base (L2.CX P w) 4 f fd ["self", "laid", "rewriting", "i"] (sp_Holder_holes_of C G Ho L) := by
  refine F.okX sc_Holder_holes_of (fun vs H Q E h => ?_) (fun cdv A outer s H vs Q E hr h => ?_)
  · obtain ⟨_, _, _, _, _, _, _, _, rfl, _⟩ := h
    rfl
  · obtain ⟨a, dx, st, lv, wv, hh, z, i, rfl, hH, ok, hst, hL, hz, hzok, retx, ret0, ret1⟩ := h
    have hL0 := hL
    obtain ⟨lb, ldx, fs, nv, kv, sv, rfl, hb, l1, l2, l3, hny, ⟨kl, rfl, hkl⟩, hsy⟩ := hL
    obtain ⟨gv, wv', hv, bv, ha, ⟨ga, gdx, gfs, grv, rfl, hga, hgm, hgr, hR⟩, hw, hhe, hbb⟩ := hH
    have hk := ok.held hh hst
    refine ⟨_, (pss_cons (ps_if (PW.pt (pw_or (pt_not (pt_chain op_le op_lt pe_int (pv 3) (pe_callB call_len_seq (by rfl) T.len (by decide +kernel) (pa_cons (pe_fld (pv 1) rfl) pa_nil)))) (pw_or1 (pt_not (pt_val (pe_ix ix_list (pe_fld (pv 1) rfl) (pv 3) (fun _ _ => rfl)))))))
    (pss_one (ps_raiseRf (k := 1) rfl Rf (hr.mono (by decide)) (takes_of rfl rfl rfl rfl) (by exact (pa_cons (pe_un un_neg pe_int) pa_nil))))
    pss_nil)
    (pss_one (ps_ret (pe_fc F_holes_at (hr.mono (by decide)) pass0 (pa_cons (pe_fld (pe_fld (pv 0) rfl) rfl) (pa_cons (pv 1) (pa_cons (pv 2) (pa_cons (pv 3) pa_nil)))))))), ?_⟩
    refine ⟨_, rfl, _, _, rfl, rfl, _, rfl, ?_⟩
    show if decide ((0 : Int) ≤ i) = true then _ else _
    by_cases h1 : 0 ≤ i
    · rw [decide_eq_true h1]
      refine iteT ?_
      refine ⟨_, rfl, lb, L, ldx, fs, _, rfl, hb, Lc.cls, Lc.nodes, l2, kl, _, rfl, .inl (SqL.of hkl), _, _, rfl, rfl, _, rfl, ?_⟩
      show if (!decide (i < (((kindsT st.grammar hh.non hh.term).map V.bl).length : Int))) = true then _ else _
      rw [List.length_map]
      by_cases h2 : i < ((kindsT st.grammar hh.non hh.term).length : Int)
      · rw [decide_eq_true h2]
        refine iteF ?_
        obtain ⟨nd, hnd⟩ : ∃ b, (kindsT st.grammar hh.non hh.term)[i.toNat]? = some b := ⟨_, List.getElem?_eq_getElem (by omega)⟩
        have hat : atI ((kindsT st.grammar hh.non hh.term).map V.bl) i = some (V.bl nd) := by
          have := atI_nat (map_bl_get hnd)
          rwa [Int.toNat_of_nonneg h1] at this
        refine ⟨_, rfl, lb, L, ldx, fs, _, rfl, hb, Lc.cls, Lc.nodes, l2, _, rfl, kl, _, _, _, rfl, rfl, SqL.of hkl, hat, nd, rfl, ?_⟩
        cases nd with
        | false =>
          refine iteT ?_
          exact ⟨_, rfl, _, rfl, fun d hd => (retx fun h => by rw [hnd] at h; cases h.2).go d hd⟩
        | true =>
          refine iteF ?_
          refine ⟨_, rfl, a, Ho, dx, _, _, rfl, ha, Hc.cls, Hc.grammar, rfl, ga, G, gdx, gfs, _, rfl, del_ex _ _ hga, Gc.cls, Gc.rules, hgr, _, rfl, _, rfl, _, rfl, grv, .ref lb, wv, st.grammar, hh.term, hh.non, i.toNat, z, ?_, hR.mono del_ex, hL0, hz, ok.g, hk.go, hk.len, hzok, hnd, ret0 h1 hnd, fun b r H' v hm e hv => ret1 b r H' v h1 hnd hm e hv⟩
          unfold vN
          rw [Int.toNat_of_nonneg h1]; rfl
      · rw [decide_eq_false h2]
        refine iteT ?_
        exact ⟨_, rfl, _, rfl, fun d hd => (retx fun h => by
          have := (List.getElem?_eq_some_iff.mp h.2).1
          omega).go d hd⟩
    · rw [decide_eq_false h1]
      refine iteF ?_
      refine ⟨_, rfl, iteT ?_⟩
      exact ⟨_, rfl, _, rfl, fun d hd => (retx fun h => h1 h.1).go d hd⟩
end
end TW
set_option Elab.async false
set_option linter.all false
set_option maxRecDepth 100000
set_option maxHeartbeats 4000000
namespace TW
open PySem PySem.Spec PyProof.Rows L2
open Vaglrc (Sym Rule Grammar Node)
open Vaglrj (State Held)
open TR (StOk kindsT Go NoHole GOk)
/-- a new list of these numbers, over a heap that has grown -/
def Told (H : Hp) (Q : VK) (ns : List Int) : Prop := ∀ H' l, Ex H H' → H l = none → H' l = some (.lst (ns.map V.int)) → Q (.ref l) H'
section
variable {P : Program} {w : World} {K : PySem.W.Frag} {mg : Str → Option Value} {base : Heap} {C fI G Ho L : Addr}
def sp_Holder_told_term (C G Ho : Addr) : Sp := fun vs H Q E => ∃ (a dx : Addr) (s : State), vs = [.ref a] ∧ HoldV G Ho H a dx s ∧ StOk s ∧ (s.held = none → Rz E C H (-9)) ∧ ∀ h, s.held = some h → Told H Q (0 :: Vaglrj.toInts (h.non :: h.term.length :: h.term))
abbrev s_Holder_told_term : Stmt := inClass (topS 64) 11
/-- 0 self, 1 term -/
theorem sc_Holder_told_term : FnScope ["self", "term"] ["self"] (defScope s_Holder_told_term) := ⟨rfl, rfl, rfl, by decide +kernel, rfl, by decide +kernel, by decide +kernel⟩
theorem ok_Holder_told_term {f : Addr} {fd : FuncData} (F : Fun K "told_term" "Holder.told_term" s_Holder_told_term f fd) (T : Glob mg) (Hc : HCls K Ho) (F_Holder_held_term : MthC P w K mg base (L2.CX P w) 2 Ho "held_term" ["self"] (sp_Holder_held_term C G Ho)) : FnOk P w K mg base (L2.CX P w) 3 f fd ["self"] (sp_Holder_told_term C G Ho) := by
  refine F.okX sc_Holder_told_term (fun vs H Q E h => ?_) (fun cdv A outer s H vs Q E hr h => ?_)
  · obtain ⟨_, _, _, rfl, _⟩ := h
    rfl
  · obtain ⟨a, dx, st, rfl, hH, ok, ret0, ret1⟩ := h
    have hH0 := hH
    obtain ⟨gv, wv, hv, bv, ha, hg, hw, hhe, hb⟩ := hH
    refine ⟨_, (pss_cons (ps_set (i := 1) sc_Holder_told_term.nd rfl (Or.inl rfl) (pe_mc0 (pv 0) F_Holder_held_term (hr.mono (by decide)) (passX rfl rfl rfl rfl)))
    (pss_one (ps_ret (pe_op op_cat (pe_lst (pa_cons pe_int (pa_cons (pe_ix ix_tup (pe_fld (pv 0) rfl) pe_int (fun _ _ => rfl)) (pa_cons (pe_callB call_len_seq (by rfl) T.len (by decide +kernel) (pa_cons (pv 1) pa_nil)) pa_nil)))) (pv 1))))), ?_⟩
    refine ⟨_, rfl, a, dx, _, rfl, ha, rfl, a, dx, st, rfl, hH0, ret0, fun h v hst hn => ?_⟩
    rw [hst] at hhe
    obtain ⟨ha', hq, rfl, hho, hhq⟩ := hhe
    obtain ⟨vl, rfl, hvl⟩ := hn
    have hvl' := del_ex _ _ hvl
    have hk := (ok.held h hst).len
    refine ⟨_, rfl, a, Ho, dx, _, _, rfl, ha, Hc.cls, Hc.held, rfl, ha', _, _, _, rfl, rfl, SqT.of (del_ex _ _ hho), atI_nat (j := 0) rfl, _, rfl, vl, _, rfl, .inl (SqL.of hvl'), three_line, fun l1 hl1 => ?_⟩
    refine ⟨_, rfl, l1, vl, _, _, rfl, rfl, upd_same, (Ex.new hl1) _ _ hvl', Nat.le_of_lt (small_lt (by simp; omega)), fun l2 hl2 => ?_⟩
    refine ret1 h hst _ l2 ((Ex.new hl1).tr (Ex.new hl2)) ((Ex.new hl1).back hl2) ?_
    rw [upd_same, List.length_map]
    unfold Vaglrj.toInts
    simp [vN]
end
end TW
set_option Elab.async false
set_option linter.all false
set_option maxRecDepth 100000
set_option maxHeartbeats 4000000
namespace TW
open PySem PySem.Spec PyProof.Rows L2
open Vaglrc (Sym Rule Grammar Node)
open Vaglrj (State Held)
open TR (StOk kindsT Go NoHole GOk)
section
variable {P : Program} {w : World} {K : PySem.W.Frag} {mg : Str → Option Value} {base : Heap} {C fI G Ho L : Addr}
theorem yield_len {g : Grammar} {a : Nat} {y : List Nat} : (TR.bytesOf g [.non a] y).length ≤ y.length := by
  unfold TR.bytesOf
  rw [List.length_map]
  refine Nat.le_trans (List.length_filter_le _ _) ?_
  rw [List.length_zip]; omega
def sp_Holder_told_bytes (C G Ho : Addr) : Sp := fun vs H Q E => ∃ (a dx : Addr) (s : State), vs = [.ref a] ∧ HoldV G Ho H a dx s ∧ StOk s ∧ (s.held = none → Rz E C H (-9)) ∧ ∀ h, s.held = some h → Told H Q (0 :: Vaglrj.toInts ((Vaglrj.yieldOf s.grammar h.non h.term).length :: Vaglrj.yieldOf s.grammar h.non h.term))
abbrev s_Holder_told_bytes : Stmt := inClass (topS 64) 12
/-- 0 self, 1 found -/
theorem sc_Holder_told_bytes : FnScope ["self", "found"] ["self"] (defScope s_Holder_told_bytes) := ⟨rfl, rfl, rfl, by decide +kernel, rfl, by decide +kernel, by decide +kernel⟩
theorem ok_Holder_told_bytes {f : Addr} {fd : FuncData} (F : Fun K "told_bytes" "Holder.told_bytes" s_Holder_told_bytes f fd) (T : Glob mg) (F_bytes_of : FnC P w K mg base CX0 1 "bytes_of" ["laid"] (sp_bytes_of L)) (F_Holder_held_laid : MthC P w K mg base (L2.CX P w) 4 Ho "held_laid" ["self"] (sp_Holder_held_laid C G Ho L)) : FnOk P w K mg base (L2.CX P w) 5 f fd ["self"] (sp_Holder_told_bytes C G Ho) := by
  refine F.okX sc_Holder_told_bytes (fun vs H Q E h => ?_) (fun cdv A outer s H vs Q E hr h => ?_)
  · obtain ⟨_, _, _, rfl, _⟩ := h
    rfl
  · obtain ⟨a, dx, st, rfl, hH, ok, ret0, ret1⟩ := h
    have hH0 := hH
    obtain ⟨gv, wv, hv, bv, ha, hg, hw, hhe, hb⟩ := hH
    refine ⟨_, (pss_cons (ps_set (i := 1) sc_Holder_told_bytes.nd rfl (Or.inl rfl) (pe_fc F_bytes_of (hr.mono (by decide)) pass0 (pa_cons (pe_mc0 (pv 0) F_Holder_held_laid (hr.mono (by decide)) (passX rfl rfl rfl rfl)) pa_nil)))
    (pss_one (ps_ret (pe_op op_cat (pe_lst (pa_cons pe_int (pa_cons (pe_callB call_len_seq (by rfl) T.len (by decide +kernel) (pa_cons (pv 1) pa_nil)) pa_nil))) (pv 1))))), ?_⟩
    refine ⟨_, rfl, a, dx, _, rfl, ha, rfl, a, dx, st, rfl, hH0, ok, ret0, fun h v H1 hst e1 hL => ?_⟩
    have hk := ok.held h hst
    have hyl := TR.yieldOf_eq ok.g hk.go
    have hlen := yield_len (g := st.grammar) (a := h.non) (y := h.term)
    have hk4 := hk.len
    refine ⟨v, st.grammar, h.term, h.non, rfl, hL, hk.go, hk.len, fun H2 bl e2 hbl hb2 => ?_⟩
    refine ⟨_, rfl, bl, _, rfl, .inl (SqL.of hb2), two_line, fun l1 hl1 => ?_⟩
    refine ⟨_, rfl, l1, bl, _, _, rfl, rfl, upd_same, (Ex.new hl1) _ _ hb2, Nat.le_of_lt (small_lt (by simp; omega)), fun l2 hl2 => ?_⟩
    refine ret1 h hst _ l2 (((e1.tr e2).tr (Ex.new hl1)).tr (Ex.new hl2)) (((e1.tr e2).tr (Ex.new hl1)).back hl2) ?_
    rw [upd_same, List.length_map, hyl]
    unfold Vaglrj.toInts
    simp [vN]
end
end TW
set_option Elab.async false
set_option linter.all false
set_option maxRecDepth 100000
set_option maxHeartbeats 4000000
namespace TW
open PySem PySem.Spec PyProof.Rows L2
open Vaglrc (Sym Rule Grammar Node)
open Vaglrj (State Held)
open TR (StOk kindsT Go NoHole GOk)
section
variable {P : Program} {w : World} {K : PySem.W.Frag} {mg : Str → Option Value} {base : Heap} {C fI G Ho L : Addr}
/-- a new list of these numbers, the holder's object changed -/
def Made (G Ho : Addr) (H : Hp) (Q : VK) (a dx : Addr) (s : State) (ns : List Int) : Prop := ∀ H' l, Ex (del H a) (del H' a) → HoldV G Ho H' a dx s → H l = none → H' l = some (.lst (ns.map V.int)) → Q (.ref l) H'
def sp_Holder_go_back (C G Ho : Addr) : Sp := fun vs H Q E => ∃ (a dx : Addr) (s : State), vs = [.ref a] ∧ HoldV G Ho H a dx s ∧ StOk s ∧ (s.past = [] → Rz E C H (-11)) ∧ ∀ h l, s.past = h :: l → Made G Ho H Q a dx { s with held := some h, past := l } [0, (h.term.length : Int)]
abbrev s_Holder_go_back : Stmt := inClass (topS 64) 18
/-- 0 self -/
theorem sc_Holder_go_back : FnScope ["self"] ["self"] (defScope s_Holder_go_back) := ⟨rfl, rfl, rfl, by decide +kernel, rfl, by decide +kernel, by decide +kernel⟩
theorem ok_Holder_go_back {f : Addr} {fd : FuncData} (F : Fun K "go_back" "Holder.go_back" s_Holder_go_back f fd) (T : Glob mg) (Hc : HCls K Ho) (Rf : PySem.RfX.RfTxt K mg C fI) : FnOk P w K mg base (L2.CX P w) 3 f fd ["self"] (sp_Holder_go_back C G Ho) := by
  refine F.okX sc_Holder_go_back (fun vs H Q E h => ?_) (fun cdv A outer s H vs Q E hr h => ?_)
  · obtain ⟨_, _, _, rfl, _⟩ := h
    rfl
  · obtain ⟨a, dx, st, rfl, ⟨gv, wv, hv, bv, ha, hg, hw, hhe, ⟨bl, bvs, rfl, hbl, hbp⟩⟩, ok, ret0, ret1⟩ := h
    have hu := huOf hr
    have hbl' := del_ex _ _ hbl
    refine ⟨_, (pss_cons (ps_if (pt_cmpR (op_eqNil (Nat.lt_of_succ_lt hu)) (pe_fld (pv 0) rfl) (pe_lst pa_nil) (nomark _))
    (pss_one (ps_raiseRf (k := 1) rfl Rf (hr.mono (by decide)) (takes_of rfl rfl rfl rfl) (by exact (pa_cons (pe_un un_neg pe_int) pa_nil))))
    pss_nil)
    (pss_cons (ps_fld (pv 0) (pe_ix ix_list (pe_fld (pv 0) rfl) pe_int (fun _ _ => rfl)) rfl)
    (pss_cons (ps_fld (pv 0) (pe_slice sl_list (pe_fld (pv 0) rfl) (po_some pe_int) po_none) rfl)
    (pss_one (ps_ret (pe_lst (pa_cons pe_int (pa_cons (pe_callB call_len_seq (by rfl) T.len (by decide +kernel) (pa_cons (pe_ix ix_tup (pe_fld (pv 0) rfl) pe_int (fun _ _ => rfl)) pa_nil)) pa_nil)))))))), ?_⟩
    refine ⟨_, rfl, a, Ho, dx, _, _, rfl, ha, Hc.cls, Hc.before, rfl, nil_line, fun l0 hl0 => ?_⟩
    have e0 := Ex.new (o := .lst []) hl0
    refine ⟨bl, l0, bvs, rfl, rfl, e0 _ _ hbl', upd_same, _, rfl, ?_⟩
    cases hp : st.past with
    | nil =>
      rw [hp] at hbp
      cases hbp
      refine iteT ?_
      exact ⟨_, rfl, _, rfl, fun d hd => ((ret0 hp).mono e0).go d hd⟩
    | cons h l =>
      rw [hp] at hbp
      cases hbp with
      | cons hh hr' =>
        refine iteF ?_
        have nbl : bl ≠ a := fun q => by rw [q, del_same] at hbl; cases hbl
        refine ⟨_, rfl, a, Ho, dx, _, _, rfl, e0 _ _ ha, Hc.cls, Hc.before, rfl, bl, _, _, _, rfl, rfl, SqL.of (e0 _ _ hbl'), atI_nat (j := 0) rfl, _, rfl, a, Ho, dx, _, rfl, e0 _ _ ha, Hc.cls, Hc.held, (show 4 < 1000 by decide), ?_⟩
        refine ⟨_, rfl, a, Ho, dx, _, _, rfl, upd_same, Hc.cls, Hc.before, rfl, _, rfl, bl, _, rfl, SqL.of (by rw [upd_ne nbl]; exact e0 _ _ hbl'), fun l2 hl2 => ?_⟩
        have n2 : l2 ≠ a := fun q => by rw [q, upd_same] at hl2; cases hl2
        refine ⟨_, rfl, a, Ho, dx, _, rfl, (Ex.new hl2) _ _ upd_same, Hc.cls, Hc.before, (show 4 < 1000 by decide), ?_⟩
        obtain ⟨hha, hhq, rfl, hhx, hhn⟩ := hh
        obtain ⟨tl, rfl, htl⟩ := hhn
        have nha : hha ≠ a := fun q => by rw [q, del_same] at hhx; cases hhx
        have ntl : tl ≠ a := fun q => by rw [q, del_same] at htl; cases htl
        have key : ∀ (Hf : Hp) (l2 l3 : Addr), Hf a = some (.ins Ho dx (hfs gv wv (.ref hha) (.ref l2))) → Ex (del H a) (del Hf a) → del Hf a l2 = some (.lst _) → H l3 = none → Hf l3 = some (.lst [V.int 0, V.int ((h.term.map vN).length : Int)]) → Q (.ref l3) Hf := fun Hf l2 l3 q1 q2 q3 q4 q5 => by
          refine ret1 h l hp Hf l3 q2 ⟨gv, wv, .ref hha, .ref l2, q1, hg.mono q2, hw.mono q2, ⟨hha, .ref tl, rfl, q2 _ _ hhx, tl, rfl, q2 _ _ htl⟩, l2, _, rfl, q3, Paired.mono2 hr' fun v x q => HeldV1.mono q2 q⟩ q4 ?_
          rw [q5, List.length_map]; rfl
        refine ⟨_, rfl, a, Ho, dx, _, _, rfl, upd_same, Hc.cls, Hc.held, rfl, hha, _, _, _, rfl, rfl, SqT.of (by rw [upd_ne nha]; exact (Ex.new hl2) _ _ (by rw [upd_ne nha]; exact e0 _ _ (del_ex _ _ hhx))), atI_nat (j := 1) rfl, tl, _, rfl, .inl (SqL.of (by rw [upd_ne ntl]; exact (Ex.new hl2) _ _ (by rw [upd_ne ntl]; exact e0 _ _ (del_ex _ _ htl)))), two_line, fun l3 hl3 => ?_⟩
        have n3 : l3 ≠ a := fun q => by rw [q, upd_same] at hl3; cases hl3
        have n23 : l2 ≠ l3 := fun q => by rw [← q, upd_ne n2, upd_same] at hl3; cases hl3
        refine key _ l2 l3 (by rw [upd_ne (Ne.symm n3)]; exact upd_same) ?_ ?_ ?_ upd_same
        · refine Ex.tr ?_ (del_mono (Ex.new hl3))
          rw [del_upd_eq]
          refine Ex.tr ?_ (del_mono (Ex.new hl2))
          rw [del_upd_eq]
          exact del_mono e0
        · rw [del_ne n2, upd_ne n23, upd_ne n2, upd_same, show cutV _ (some 1) none = _ from cutV_from (a := 1)]; rfl
        · have q := (Ex.new hl2).free (by rw [upd_ne n3] at hl3; exact hl3)
          rw [upd_ne n3] at q
          exact e0.back q
end
end TW
set_option Elab.async false
set_option linter.all false
set_option maxRecDepth 100000
set_option maxHeartbeats 4000000
namespace TW
open PySem PySem.Spec PyProof.Rows L2
open Vaglrc (Sym Rule Grammar Node)
open Vaglrj (State Held)
open TR (StOk kindsT Go NoHole GOk)
theorem cutV_last {xs : List V} : cutV xs none (some (-1)) = xs.dropLast := by
  unfold cutV
  have h : HT.sIx xs.length xs.length (some (-1)) = xs.length - 1 := by
    show (if (-1 : Int) < 0 then ((-1 : Int) + (xs.length : Int)).toNat else min (-1 : Int).toNat xs.length) = _
    rw [if_pos (by omega)]; omega
  rw [h, HT.sIx_none, Nat.sub_zero, List.drop_zero, List.dropLast_eq_take]
theorem paired_dropLast {α β : Type} {F : α → β → Prop} {l : List α} {m : List β} (h : Paired F l m) : Paired F l.dropLast m.dropLast := by
  rw [List.dropLast_eq_take, List.dropLast_eq_take, Paired.len h]; exact paired_take _ h
section
variable {P : Program} {w : World} {K : PySem.W.Frag} {mg : Str → Option Value} {base : Heap} {C fI G Ho L : Addr}
def sp_Holder_drop_rule (C G Ho : Addr) : Sp := fun vs H Q E => ∃ (a dx : Addr) (s : State), vs = [.ref a] ∧ HoldV G Ho H a dx s ∧ StOk s ∧ (s.rules = [] → Rz E C H (-15)) ∧ (s.rules ≠ [] → Made G Ho H Q a dx { s with rules := s.rules.dropLast } [0, ((s.rules.length - 1 : Nat) : Int)])
abbrev s_Holder_drop_rule : Stmt := inClass (topS 64) 9
/-- 0 self -/
theorem sc_Holder_drop_rule : FnScope ["self"] ["self"] (defScope s_Holder_drop_rule) := ⟨rfl, rfl, rfl, by decide +kernel, rfl, by decide +kernel, by decide +kernel⟩
theorem ok_Holder_drop_rule {f : Addr} {fd : FuncData} (F : Fun K "drop_rule" "Holder.drop_rule" s_Holder_drop_rule f fd) (T : Glob mg) (Hc : HCls K Ho) (Rf : PySem.RfX.RfTxt K mg C fI) : FnOk P w K mg base (L2.CX P w) 3 f fd ["self"] (sp_Holder_drop_rule C G Ho) := by
  refine F.okX sc_Holder_drop_rule (fun vs H Q E h => ?_) (fun cdv A outer s H vs Q E hr h => ?_)
  · obtain ⟨_, _, _, rfl, _⟩ := h
    rfl
  · obtain ⟨a, dx, st, rfl, ⟨gv, wv, hv, bv, ha, hg, ⟨wl, wvs, rfl, hwl, hwp⟩, hhe, hb⟩, ok, ret0, ret1⟩ := h
    have hu := huOf hr
    have hwl' := del_ex _ _ hwl
    have nwl : wl ≠ a := fun q => by rw [q, del_same] at hwl; cases hwl
    refine ⟨_, (pss_cons (ps_if (pt_cmpR (op_eqNil (Nat.lt_of_succ_lt hu)) (pe_fld (pv 0) rfl) (pe_lst pa_nil) (nomark _))
    (pss_one (ps_raiseRf (k := 1) rfl Rf (hr.mono (by decide)) (takes_of rfl rfl rfl rfl) (by exact (pa_cons (pe_un un_neg pe_int) pa_nil))))
    pss_nil)
    (pss_cons (ps_fld (pv 0) (pe_slice sl_list (pe_fld (pv 0) rfl) po_none (po_some (pe_un un_neg pe_int))) rfl)
    (pss_one (ps_ret (pe_lst (pa_cons pe_int (pa_cons (pe_callB call_len_seq (by rfl) T.len (by decide +kernel) (pa_cons (pe_fld (pv 0) rfl) pa_nil)) pa_nil))))))), ?_⟩
    refine ⟨_, rfl, a, Ho, dx, _, _, rfl, ha, Hc.cls, Hc.rewritings, rfl, nil_line, fun l0 hl0 => ?_⟩
    have e0 := Ex.new (o := .lst []) hl0
    refine ⟨wl, l0, wvs, rfl, rfl, e0 _ _ hwl', upd_same, _, rfl, ?_⟩
    have hlen := Paired.len hwp
    cases hp : st.rules with
    | nil =>
      rw [hp] at hwp
      cases hwp
      refine iteT ?_
      exact ⟨_, rfl, _, rfl, fun d hd => ((ret0 hp).mono e0).go d hd⟩
    | cons z zs =>
      obtain ⟨v0, vs0, rfl⟩ : ∃ v0 vs0, wvs = v0 :: vs0 := by
        rw [hp] at hwp; cases hwp; exact ⟨_, _, rfl⟩
      · refine iteF ?_
        refine ⟨_, rfl, a, Ho, dx, _, _, rfl, e0 _ _ ha, Hc.cls, Hc.rewritings, rfl, _, rfl, _, rfl, wl, _, rfl, SqL.of (e0 _ _ hwl'), fun l2 hl2 => ?_⟩
        have n2 : l2 ≠ a := fun q => by rw [q, e0 _ _ ha] at hl2; cases hl2
        refine ⟨_, rfl, a, Ho, dx, _, rfl, (Ex.new hl2) _ _ (e0 _ _ ha), Hc.cls, Hc.rewritings, (show 4 < 1000 by decide), ?_⟩
        refine ⟨_, rfl, a, Ho, dx, _, _, rfl, upd_same, Hc.cls, Hc.rewritings, rfl, l2, _, rfl, .inl (SqL.of (by rw [upd_ne n2, upd_same])), two_line, fun l3 hl3 => ?_⟩
        have n3 : l3 ≠ a := fun q => by rw [q, upd_same] at hl3; cases hl3
        have n23 : l2 ≠ l3 := fun q => by rw [← q, upd_ne n2, upd_same] at hl3; cases hl3
        have key : ∀ (Hf : Hp), Hf a = some (.ins Ho dx (hfs gv (.ref l2) hv bv)) → Ex (del H a) (del Hf a) → del Hf a l2 = some (.lst (v0 :: vs0).dropLast) → H l3 = none → Hf l3 = some (.lst [V.int 0, V.int ((cutV (v0 :: vs0) none (some (-1))).length : Int)]) → Q (.ref l3) Hf := fun Hf q1 q2 q3 q4 q5 => by
          refine ret1 (by rw [hp]; simp) Hf l3 q2 ⟨gv, .ref l2, hv, bv, q1, hg.mono q2, ⟨l2, _, rfl, q3, ?_⟩, hhe.mono q2, hb.mono q2⟩ q4 ?_
          · show Paired _ _ st.rules.dropLast
            exact paired_dropLast (Paired.mono2 hwp fun v x q => RwV.mono q2 q)
          · rw [q5, cutV_last, List.length_dropLast, hlen]; rfl
        refine key _ (by rw [upd_ne (Ne.symm n3)]; exact upd_same) ?_ ?_ ?_ upd_same
        · refine Ex.tr ?_ (del_mono (Ex.new hl3))
          rw [del_upd_eq]
          exact (del_mono e0).tr (del_mono (Ex.new hl2))
        · rw [del_ne n2, upd_ne n23, upd_ne n2, upd_same, cutV_last]
        · have q := (Ex.new hl2).free (by rw [upd_ne n3] at hl3; exact hl3)
          exact e0.back q
end
end TW
set_option Elab.async false
set_option linter.all false
set_option maxRecDepth 100000
set_option maxHeartbeats 4000000
namespace TW
open PySem PySem.Spec PyProof.Rows L2
open Vaglrc (Sym Rule Grammar Node)
open Vaglrj (State Held)
open TR (StOk kindsT Go NoHole GOk)
/-! data apart from an object -/
section
variable {H : Hp} {p C d : Addr} {fs : List (Str × V)}
theorem natsV_ins {v : V} {ns : List Nat} (hp : H p = some (.ins C d fs)) (h : NatsV H v ns) : NatsV (del H p) v ns := by
  obtain ⟨l, rfl, h⟩ := h
  exact ⟨l, rfl, by rw [del_ne (fun e => by rw [e, hp] at h; cases h)]; exact h⟩
theorem intsV_ins {v : V} {ns : List Int} (hp : H p = some (.ins C d fs)) (h : IntsV H v ns) : IntsV (del H p) v ns := by
  obtain ⟨l, rfl, h⟩ := h
  exact ⟨l, rfl, by rw [del_ne (fun e => by rw [e, hp] at h; cases h)]; exact h⟩
theorem symV_ins {v : V} {s : Sym} (hp : H p = some (.ins C d fs)) (h : SymV H v s) : SymV (del H p) v s := by
  obtain ⟨l, rfl, h⟩ := h
  exact ⟨l, rfl, by rw [del_ne (fun e => by rw [e, hp] at h; cases h)]; exact h⟩
theorem symsV_ins {v : V} {s : List Sym} (hp : H p = some (.ins C d fs)) (h : SymsV H v s) : SymsV (del H p) v s := by
  obtain ⟨l, vs, rfl, h, hq⟩ := h
  exact ⟨l, vs, rfl, by rw [del_ne (fun e => by rw [e, hp] at h; cases h)]; exact h, Paired.mono2 hq fun _ _ q => symV_ins hp q⟩
theorem ruleV_ins {v : V} {r : Rule × Int} (hp : H p = some (.ins C d fs)) (h : RuleV H v r) : RuleV (del H p) v r := by
  obtain ⟨l, b, rfl, h, hq⟩ := h
  exact ⟨l, b, rfl, by rw [del_ne (fun e => by rw [e, hp] at h; cases h)]; exact h, symsV_ins hp hq⟩
theorem rulesV_ins {v : V} {s : List (Rule × Int)} (hp : H p = some (.ins C d fs)) (h : RulesV H v s) : RulesV (del H p) v s := by
  obtain ⟨l, vs, rfl, h, hq⟩ := h
  exact ⟨l, vs, rfl, by rw [del_ne (fun e => by rw [e, hp] at h; cases h)]; exact h, Paired.mono2 hq fun _ _ q => ruleV_ins hp q⟩
theorem gramV_ins {G : Addr} {v : V} {g : Grammar} (hp : H p = some (.ins C d fs)) (hne : G ≠ C) (h : GramV G H v g) : GramV G (del H p) v g := by
  obtain ⟨a, dx, fs', rv, rfl, h, h2, h3, h4⟩ := h
  exact ⟨a, dx, fs', rv, rfl, by rw [del_ne (fun e => by rw [e, hp] at h; cases h; exact hne rfl)]; exact h, h2, h3, rulesV_ins hp h4⟩
theorem rwV_ins {v : V} {r : Vaglrj.Rewrite} (hp : H p = some (.ins C d fs)) (h : RwV H v r) : RwV (del H p) v r := by
  obtain ⟨a, b, c, rfl, h1, h2, h3⟩ := h
  exact ⟨a, b, c, rfl, by rw [del_ne (fun e => by rw [e, hp] at h1; cases h1)]; exact h1, by rw [del_ne (fun e => by rw [e, hp] at h2; cases h2)]; exact h2, by rw [del_ne (fun e => by rw [e, hp] at h3; cases h3)]; exact h3⟩
end
theorem fresh_del {H H' : Hp} {a l : Addr} {o : HO} (e : Ex (del H a) (del H' a)) (ha : H' a = some o) (h : H' l = none) : H l = none := by
  have n : l ≠ a := fun q => by rw [q, ha] at h; cases h
  have := e.back (show del H' a l = none by rw [del_ne n]; exact h)
  rwa [del_ne n] at this
/-- a call's ends, by what is due -/
structure EndsC (G Ho C : Addr) (H : Hp) (Q : VK) (E : XK) (a dx : Addr) (s : State) (r : State × List Int) : Prop where
  rz : ∀ n, r = (s, [n]) → Rz E C H n
  md : Made G Ho H Q a dx r.1 r.2
theorem EndsC.told {G Ho C : Addr} {H : Hp} {Q : VK} {E : XK} {a dx : Addr} {s : State} {r : State × List Int} (h : EndsC G Ho C H Q E a dx s r) (hH : HoldV G Ho H a dx s) {ns : List Int} (e : r = (s, ns)) : Told H Q ns := by
  intro H' l ex hl hv
  subst e
  exact h.md H' l (del_mono ex) (hH.mono ex) hl hv
section
variable {P : Program} {w : World} {K : PySem.W.Frag} {mg : Str → Option Value} {base : Heap} {C fI G Ho L : Addr}
def sp_Holder_load (C G Ho : Addr) : Sp := fun vs H Q E => ∃ (a dx : Addr) (s : State) (rv : V) (xs : List Int), vs = [.ref a, rv] ∧ HoldV G Ho H a dx s ∧ IntsV H rv xs ∧ xs.length ≤ 2000 ∧ EndsC G Ho C H Q E a dx s (Vaglrj.loading s xs)
abbrev s_Holder_load : Stmt := inClass (topS 64) 6
/-- 0 self, 1 row, 2 grammar, 3 number -/
theorem sc_Holder_load : FnScope ["self", "row", "grammar", "number"] ["self", "row"] (defScope s_Holder_load) := ⟨rfl, rfl, rfl, by decide +kernel, rfl, by decide +kernel, by decide +kernel⟩
theorem ok_Holder_load {f : Addr} {fd : FuncData} (F : Fun K "load" "Holder.load" s_Holder_load f fd) (T : Glob mg) (Hc : HCls K Ho) (hGH : G ≠ Ho) (Rf : PySem.RfX.RfTxt K mg C fI) (F_grammar_of : FnC P w K mg base CX0 3 "grammar_of" ["row"] (sp_grammar_of G)) : FnOk P w K mg base (L2.CX P w) 4 f fd ["self", "row"] (sp_Holder_load C G Ho) := by
  refine F.okX sc_Holder_load (fun vs H Q E h => ?_) (fun cdv A outer s H vs Q E hr h => ?_)
  · obtain ⟨_, _, _, _, _, rfl, _⟩ := h
    rfl
  · obtain ⟨a, dx, st, rv, xs, rfl, ⟨gv, wv, hv, bv, ha, hg, hw, hhe, hb⟩, ⟨xl, rfl, hxl⟩, hn, rz, md⟩ := h
    have hlen : (xs.map V.int).length = xs.length := List.length_map _
    refine ⟨_, (pss_cons (ps_if (pt_val (pe_callB (cr_any rfl) (by rfl) T.any (by decide +kernel) (pa_cons (pe_lc (own := [("number", 3)]) (g := (gName 3)) (tt := tYes) (te := (tOp (rI0 fun i j => .bl (decide (i < j))) (tVar 3) (tC (.int 0)))) rfl sc_Holder_load.nd (pi_list (pv 1)) (blkOk_by (own := [("number", 3)]) (N := ["self", "row", "grammar", "number"]) (sc := defScope s_Holder_load) (by decide +kernel)) (fun _ _ _ _ _ => by exact (pg_name (i := 3) sc_Holder_load.nd rfl (Or.inl rfl))) (fun _ _ _ _ _ => pts_nil) (fun _ _ _ _ _ => by exact (pe_cmpR op_lt (pv 3) pe_int (nomark _)))) pa_nil)))
    (pss_one (ps_raiseRf (k := 1) rfl Rf (hr.mono (by decide)) (takes_of rfl rfl rfl rfl) (by exact (pa_cons (pe_un un_neg pe_int) pa_nil))))
    pss_nil)
    (pss_cons (ps_set (i := 2) sc_Holder_load.nd rfl (Or.inl rfl) (pe_fc F_grammar_of (hr.mono (by decide)) pass0 (pa_cons (pv 1) pa_nil)))
    (pss_cons (ps_if (pt_cmpR op_isN (pv 2) pe_non (nomark _))
    (pss_one (ps_raiseRf (k := 1) rfl Rf (hr.mono (by decide)) (takes_of rfl rfl rfl rfl) (by exact (pa_cons (pe_un un_neg pe_int) pa_nil))))
    pss_nil)
    (pss_cons (ps_fld (pv 0) (pv 2) rfl)
    (pss_cons (ps_fld (pv 0) (pe_lst pa_nil) rfl)
    (pss_cons (ps_fld (pv 0) pe_non rfl)
    (pss_cons (ps_fld (pv 0) (pe_lst pa_nil) rfl)
    (pss_one (ps_ret (pe_lst (pa_cons pe_int pa_nil))))))))))), ?_⟩
    refine ⟨_, rfl, xl, rfl, ⟨_, SqL.of hxl⟩, fun D hD => ?_⟩
    refine lcA (K := K) (ys := xs) (g := V.int) (b := fun _ => true) (c := fun n => .bl (decide (n < 0))) hD hxl (by omega) (fun _ => rfl) (fun _ _ _ _ => evb_yes) (fun n hn H' e' _ R hR => ⟨_, rfl, _, _, rfl, rfl, hR _ (Ex.refl _)⟩) fun H1 e1 hDv => ?_
    refine ⟨D, xs.map fun n => decide (n < 0), rfl, SqL.of (by rw [hDv, filter_true, List.map_map]; rfl), _, rfl, ?_⟩
    rw [List.any_map]
    show if (xs.any fun n => decide (n < 0)) = true then _ else _
    unfold Vaglrj.loading at rz md
    cases hbad : xs.any fun n => decide (n < 0) with
    | true =>
      rw [hbad, if_pos rfl] at rz
      refine iteT ?_
      exact ⟨_, rfl, _, rfl, fun d hd => (Rz.mono e1 (rz (-1) rfl)).go d hd⟩
    | false =>
      rw [hbad, if_neg Bool.false_ne_true] at rz md
      refine iteF ?_
      have hgood : ∀ n ∈ xs, 0 ≤ n := fun n hn => by
        have := List.any_eq_false.mp hbad n hn
        simpa using this
      have hnx : xs.map V.int = (Vaglrj.toNats xs).map vN := ints_nats hgood
      refine ⟨_, rfl, .ref xl, Vaglrj.toNats xs, rfl, ⟨xl, rfl, by rw [e1 _ _ hxl, hnx]⟩, fun hg0 H2 e2 => ?_, fun g H2 v hg1 e2 hgv => ?_⟩
      · rw [hg0] at rz
        refine ⟨_, rfl, rfl, _, rfl, iteT ?_⟩
        exact ⟨_, rfl, _, rfl, fun d hd => (Rz.mono (e1.tr e2) (rz (-2) rfl)).go d hd⟩
      · rw [hg1] at md
        have e12 := e1.tr e2
        have ha2 := e12 _ _ ha
        have hgd := gramV_ins ha2 hGH hgv
        obtain ⟨gx, gdx, gfs, grv, rfl, hgx⟩ := hgv
        refine ⟨_, rfl, rfl, _, rfl, iteF ?_⟩
        have key : ∀ (Hf : Hp) (l3 l5 l6 : Addr), Hf a = some (.ins Ho dx (hfs (.ref gx) (.ref l3) .non (.ref l5))) → Ex (del H2 a) (del Hf a) → del Hf a l3 = some (.lst []) → del Hf a l5 = some (.lst []) → H l6 = none → Hf l6 = some (.lst [V.int 0]) → Q (.ref l6) Hf := fun Hf l3 l5 l6 q1 q2 q3 q4 q5 q6 => by
          exact md Hf l6 ((del_mono e12).tr q2) ⟨_, _, _, _, q1, GramV.mono q2 hgd, ⟨l3, [], rfl, q3, .nil⟩, rfl, ⟨l5, [], rfl, q4, .nil⟩⟩ q5 q6
        refine ⟨_, rfl, _, rfl, a, Ho, dx, _, rfl, ha2, Hc.cls, Hc.grammar, (show 4 < 1000 by decide), ?_⟩
        refine ⟨nil_line, fun l3 hl3 => ⟨_, rfl, a, Ho, dx, _, rfl, (Ex.new hl3) _ _ upd_same, Hc.cls, Hc.rewritings, (show 4 < 1000 by decide), ?_⟩⟩
        refine ⟨_, rfl, a, Ho, dx, _, rfl, upd_same, Hc.cls, Hc.held, (show 4 < 1000 by decide), ?_⟩
        refine ⟨nil_line, fun l5 hl5 => ⟨_, rfl, a, Ho, dx, _, rfl, (Ex.new hl5) _ _ upd_same, Hc.cls, Hc.before, (show 4 < 1000 by decide), ?_⟩⟩
        refine ⟨one_line, fun l6 hl6 => ?_⟩
        have n3 : l3 ≠ a := fun q => by rw [q, upd_same] at hl3; cases hl3
        have n5 : l5 ≠ a := fun q => by rw [q, upd_same] at hl5; cases hl5
        have n6 : l6 ≠ a := fun q => by rw [q, upd_same] at hl6; cases hl6
        have n35 : l3 ≠ l5 := fun q => by rw [← q, upd_ne n3, upd_ne n3, upd_same] at hl5; cases hl5
        have n36 : l3 ≠ l6 := fun q => by rw [← q, upd_ne n3, upd_ne n35, upd_ne n3, upd_ne n3, upd_same] at hl6; cases hl6
        have n56 : l5 ≠ l6 := fun q => by rw [← q, upd_ne n5, upd_same] at hl6; cases hl6
        have ex : Ex (del H2 a) (del (upd (upd (upd (upd (upd (upd H2 a (.ins Ho dx (hfs (.ref gx) wv hv bv))) l3 (.lst [])) a (.ins Ho dx (hfs (.ref gx) (.ref l3) hv bv))) a (.ins Ho dx (hfs (.ref gx) (.ref l3) .non bv))) l5 (.lst [])) a (.ins Ho dx (hfs (.ref gx) (.ref l3) .non (.ref l5)))) a) := by
          rw [del_upd_eq]
          refine Ex.tr ?_ (del_mono (Ex.new hl5))
          rw [del_upd_eq, del_upd_eq]
          refine Ex.tr ?_ (del_mono (Ex.new hl3))
          rw [del_upd_eq]
          exact Ex.refl _
        refine key _ l3 l5 l6 (by rw [upd_ne (Ne.symm n6)]; exact upd_same) (ex.tr (del_mono (Ex.new hl6))) ?_ ?_ ?_ upd_same
        · rw [del_ne n3, upd_ne n36, upd_ne n3, upd_ne n35, upd_ne n3, upd_ne n3, upd_same]
        · rw [del_ne n5, upd_ne n56, upd_ne n5, upd_same]
        · exact fresh_del ((del_mono e12).tr ex) upd_same hl6
end
end TW
set_option Elab.async false
set_option linter.all false
set_option maxRecDepth 100000
set_option maxHeartbeats 4000000
namespace TW
open PySem PySem.Spec PyProof.Rows L2
open Vaglrc (Sym Rule Grammar Node)
open Vaglrj (State Held)
open TR (StOk kindsT Go NoHole GOk)
section
variable {P : Program} {w : World} {K : PySem.W.Frag} {mg : Str → Option Value} {base : Heap} {C fI G Ho L : Addr}
theorem text_bad {s : State} {a : Int} {x : List Int} : ((x.any fun n => decide (n < 0) || decide (255 < n)) = true → Vaglrj.texting s a x = (s, [-1])) ∧
    ((x.any fun n => decide (n < 0) || decide (255 < n)) = false → 24 < x.length → Vaglrj.texting s a x = (s, [-3])) ∧
    ((x.any fun n => decide (n < 0) || decide (255 < n)) = false → x.length ≤ 24 → (a < 0 ∨ (s.grammar.nons : Int) ≤ a) → Vaglrj.texting s a x = (s, [-4])) ∧
    ((x.any fun n => decide (n < 0) || decide (255 < n)) = false → x.length ≤ 24 → 0 ≤ a → a < s.grammar.nons → Vaglrj.texting s a x = match Vaglrj.saidBy s.grammar a.toNat (Vaglrj.toNats x) with
      | .uncovered => (s, [-7])
      | .endless => (s, [-10])
      | .great => (s, [-12])
      | .term y => (Vaglrj.hold s { non := a.toNat, term := y }, [0, (y.length : Int)])) := by
  unfold Vaglrj.texting
  refine ⟨fun h => by rw [h, if_pos rfl], fun h h2 => ?_, fun h h2 h3 => ?_, fun h h2 h3 h4 => ?_⟩
  · rw [h, if_neg Bool.false_ne_true, if_pos (show Vaglrj.TEXT < x.length from h2)]
  · rw [h, if_neg Bool.false_ne_true, if_neg (show ¬ Vaglrj.TEXT < x.length by show ¬ 24 < _; omega), if_pos (by unfold Vaglrj.badNon; rcases h3 with h3 | h3 <;> simp [h3])]
  · rw [h, if_neg Bool.false_ne_true, if_neg (show ¬ Vaglrj.TEXT < x.length by show ¬ 24 < _; omega), if_neg (by unfold Vaglrj.badNon; simp; omega)]
    cases Vaglrj.saidBy s.grammar a.toNat (Vaglrj.toNats x) <;> rfl
def sp_Holder_read_text (C G Ho : Addr) : Sp := fun vs H Q E => ∃ (o dx : Addr) (s : State) (rv : V) (a : Int) (xs : List Int), vs = [.ref o, .int a, rv] ∧ HoldV G Ho H o dx s ∧ StOk s ∧ IntsV H rv xs ∧ xs.length ≤ 2000 ∧ EndsC G Ho C H Q E o dx s (Vaglrj.texting s a xs)
abbrev s_Holder_read_text : Stmt := inClass (topS 64) 7
/-- 0 self, 1 a, 2 signs, 3 term -/
theorem sc_Holder_read_text : FnScope ["self", "a", "signs", "term"] ["self", "a", "signs"] (defScope s_Holder_read_text) := ⟨rfl, rfl, rfl, by decide +kernel, rfl, by decide +kernel, by decide +kernel⟩
theorem ok_Holder_read_text {f : Addr} {fd : FuncData} (F : Fun K "read_text" "Holder.read_text" s_Holder_read_text f fd) (T : Glob mg) (Hc : HCls K Ho) (F_text_term : FnC P w K mg base (L2.CX P w) 7 "text_term" ["grammar", "nonterminal", "signs"] (sp_text_term C G)) (F_Holder_hold : MthC P w K mg base CX0 1 Ho "hold" ["self", "nonterminal", "term"] (sp_Holder_hold G Ho)) : FnOk P w K mg base (L2.CX P w) 8 f fd ["self", "a", "signs"] (sp_Holder_read_text C G Ho) := by
  refine F.okX sc_Holder_read_text (fun vs H Q E h => ?_) (fun cdv A outer s H vs Q E hr h => ?_)
  · obtain ⟨_, _, _, _, _, _, rfl, _⟩ := h
    rfl
  · obtain ⟨o, dx, st, rv, a, xs, rfl, hH, ok, hx, hn, rz, md⟩ := h
    have hH0 := hH
    obtain ⟨gv, wv, hv, bv, ha, hg, hw, hhe, hb⟩ := hH
    obtain ⟨t1, t2, t3, t4⟩ := text_bad (s := st) (a := a) (x := xs)
    refine ⟨_, (pss_cons (ps_set (i := 3) sc_Holder_read_text.nd rfl (Or.inl rfl) (pe_fc F_text_term (hr.mono (by decide)) (passX rfl rfl rfl rfl) (pa_cons (pe_fld (pv 0) rfl) (pa_cons (pv 1) (pa_cons (pv 2) pa_nil)))))
    (pss_cons (ps_expr (pe_mc (pv 0) F_Holder_hold (hr.mono (by decide)) pass0 (pa_cons (pv 1) (pa_cons (pv 3) pa_nil))))
    (pss_one (ps_ret (pe_lst (pa_cons pe_int (pa_cons (pe_callB call_len_seq (by rfl) T.len (by decide +kernel) (pa_cons (pv 3) pa_nil)) pa_nil))))))), ?_⟩
    refine ⟨_, rfl, o, Ho, dx, _, _, rfl, ha, Hc.cls, Hc.grammar, rfl, _, rfl, _, rfl, gv, rv, st.grammar, xs, a, rfl, hg.mono del_ex, ok.g, hx, hn, fun h => rz _ (t1 h), fun h h2 => rz _ (t2 h h2), fun h h2 h3 => rz _ (t3 h h2 h3), fun h h2 h3 h4 => ?_⟩
    have t5 := t4 h h2 h3 h4
    cases hs : Vaglrj.saidBy st.grammar a.toNat (Vaglrj.toNats xs) with
    | uncovered => rw [hs] at t5; exact rz _ t5
    | endless => rw [hs] at t5; exact rz _ t5
    | great => rw [hs] at t5; exact rz _ t5
    | term z =>
      rw [hs] at t5
      rw [t5] at md
      intro H1 tl e1 htl htv
      have hzok := (TR.saidBy_term ok.g (TR.pok_bytes (x := Vaglrj.toNats xs) fun c hc => by
        obtain ⟨n, hn, rfl⟩ := List.mem_map.mp hc
        have := List.any_eq_false.mp h n hn
        simp only [Bool.or_eq_true, decide_eq_true_eq, not_or] at this
        omega) hs).1
      have ha1 := e1 _ _ ha
      have hz400 := hzok.len
      refine ⟨_, rfl, o, dx, _, rfl, ha1, rfl, _, rfl, _, rfl, o, dx, .ref tl, st, ⟨a.toNat, z⟩, ?_, hH0.mono e1, natsV_ins ha1 ⟨tl, rfl, htv⟩, ok.pmany, fun H2 e2 hH2 => ?_⟩
      · show [V.ref o, V.int a, V.ref tl] = [V.ref o, vN a.toNat, V.ref tl]
        unfold vN; rw [Int.toNat_of_nonneg h3]
      have ntl : tl ≠ o := fun q => by rw [q, ha1] at htv; cases htv
      have htv2 : H2 tl = some (.lst (z.map vN)) := del_ex _ _ (e2 _ _ (by rw [del_ne ntl]; exact htv))
      obtain ⟨_, _, _, _, ha2, _⟩ := id hH2
      refine ⟨_, rfl, tl, _, rfl, .inl (SqL.of htv2), two_line, fun l3 hl3 => ?_⟩
      refine md _ l3 (((del_mono e1).tr e2).tr (del_mono (Ex.new hl3))) (hH2.mono (Ex.new hl3)) (fresh_del ((del_mono e1).tr e2) ha2 hl3) ?_
      rw [upd_same, List.length_map]; rfl
end
end TW
set_option Elab.async false
set_option linter.all false
set_option maxRecDepth 100000
set_option maxHeartbeats 4000000
namespace TW
open PySem PySem.Spec PyProof.Rows L2
open Vaglrc (Sym Rule Grammar Node)
open Vaglrj (State Held)
open TR (StOk kindsT Go NoHole GOk)
section
variable {P : Program} {w : World} {K : PySem.W.Frag} {mg : Str → Option Value} {base : Heap} {C fI G Ho L : Addr}
theorem rule_bad {s : State} {a : Int} {x y : List Int} : (∀ n, Vaglrj.pattern s a x = .error n → Vaglrj.ruling s a x y = (s, [n])) ∧
    (∀ p n, Vaglrj.pattern s a x = .ok p → Vaglrj.pattern s a y = .error n → Vaglrj.ruling s a x y = (s, [n])) ∧
    (∀ p q, Vaglrj.pattern s a x = .ok p → Vaglrj.pattern s a y = .ok q → Vaglrj.isBare p = true → Vaglrj.ruling s a x y = (s, [-14])) ∧
    (∀ p q, Vaglrj.pattern s a x = .ok p → Vaglrj.pattern s a y = .ok q → Vaglrj.isBare p = false → bad13 x y → Vaglrj.ruling s a x y = (s, [-13])) ∧
    (∀ p q, Vaglrj.pattern s a x = .ok p → Vaglrj.pattern s a y = .ok q → Vaglrj.isBare p = false → ¬ bad13 x y → 16 ≤ s.rules.length → Vaglrj.ruling s a x y = (s, [-16])) ∧
    (∀ p q, Vaglrj.pattern s a x = .ok p → Vaglrj.pattern s a y = .ok q → Vaglrj.isBare p = false → ¬ bad13 x y → ¬ 16 ≤ s.rules.length → Vaglrj.ruling s a x y = ({ s with rules := s.rules ++ [{ non := a.toNat, left := p, right := q }] }, [0, ((s.rules.length + 1 : Nat) : Int)])) := by
  unfold Vaglrj.ruling
  refine ⟨fun n h => ?_, fun p n h h2 => ?_, fun p q h h2 h3 => ?_, fun p q h h2 h3 h4 => ?_, fun p q h h2 h3 h4 h5 => ?_, fun p q h h2 h3 h4 h5 => ?_⟩
  · rw [h]
  · rw [h, h2]
  · rw [h, h2]; dsimp only; rw [h3, if_pos rfl]
  · rw [h, h2]; dsimp only; rw [h3, if_neg Bool.false_ne_true]
    by_cases hc : Vaglrj.clash (Vaglrj.holesIn x) = true
    · rw [if_pos hc]
    · rw [if_neg hc, if_pos (h4.resolve_left hc)]
  · rw [h, h2]; dsimp only; rw [h3, if_neg Bool.false_ne_true, if_neg fun q => h4 (.inl q), if_neg fun q => h4 (.inr q), if_pos (show Vaglrj.RULES ≤ s.rules.length from h5)]
  · rw [h, h2]; dsimp only; rw [h3, if_neg Bool.false_ne_true, if_neg fun q => h4 (.inl q), if_neg fun q => h4 (.inr q), if_neg (show ¬ Vaglrj.RULES ≤ s.rules.length from h5)]
def sp_Holder_put_rule (C G Ho : Addr) : Sp := fun vs H Q E => ∃ (o dx : Addr) (s : State) (lv rv : V) (a : Int) (x y : List Int), vs = [.ref o, .int a, lv, rv] ∧ HoldV G Ho H o dx s ∧ StOk s ∧ IntsV H lv x ∧ IntsV H rv y ∧ x.length ≤ 2000 ∧ y.length ≤ 2000 ∧ EndsC G Ho C H Q E o dx s (Vaglrj.ruling s a x y)
abbrev s_Holder_put_rule : Stmt := inClass (topS 64) 8
/-- 0 self, 1 a, 2 left, 3 right, 4 found -/
theorem sc_Holder_put_rule : FnScope ["self", "a", "left", "right", "found"] ["self", "a", "left", "right"] (defScope s_Holder_put_rule) := ⟨rfl, rfl, rfl, by decide +kernel, rfl, by decide +kernel, by decide +kernel⟩
theorem ok_Holder_put_rule {f : Addr} {fd : FuncData} (F : Fun K "put_rule" "Holder.put_rule" s_Holder_put_rule f fd) (T : Glob mg) (Hc : HCls K Ho) (Rf : PySem.RfX.RfTxt K mg C fI) (F_rewriting_of : FnC P w K mg base (L2.CX P w) 8 "rewriting_of" ["grammar", "nonterminal", "left", "right"] (sp_rewriting_of C G)) : FnOk P w K mg base (L2.CX P w) 9 f fd ["self", "a", "left", "right"] (sp_Holder_put_rule C G Ho) := by
  refine F.okX sc_Holder_put_rule (fun vs H Q E h => ?_) (fun cdv A outer s H vs Q E hr h => ?_)
  · obtain ⟨_, _, _, _, _, _, _, _, rfl, _⟩ := h
    rfl
  · obtain ⟨o, dx, st, lv, rv, a, x, y, rfl, hH, ok, hx, hy, hxn, hyn, rz, md⟩ := h
    obtain ⟨gv, wv, hv, bv, ha, hg, ⟨wl, wvs, rfl, hwl, hwp⟩, hhe, hb⟩ := hH
    obtain ⟨t1, t2, t3, t4, t5, t6⟩ := rule_bad (s := st) (a := a) (x := x) (y := y)
    refine ⟨_, (pss_cons (ps_set (i := 4) sc_Holder_put_rule.nd rfl (Or.inl rfl) (pe_fc F_rewriting_of (hr.mono (by decide)) (passX rfl rfl rfl rfl) (pa_cons (pe_fld (pv 0) rfl) (pa_cons (pv 1) (pa_cons (pv 2) (pa_cons (pv 3) pa_nil))))))
    (pss_cons (ps_if (pt_cmpR op_ge (pe_callB call_len_seq (by rfl) T.len (by decide +kernel) (pa_cons (pe_fld (pv 0) rfl) pa_nil)) (pe_gi T.MOST_REWRITINGS) (nomark _))
    (pss_one (ps_raiseRf (k := 1) rfl Rf (hr.mono (by decide)) (takes_of rfl rfl rfl rfl) (by exact (pa_cons (pe_un un_neg pe_int) pa_nil))))
    pss_nil)
    (pss_cons (ps_fld (pv 0) (pe_op op_cat (pe_fld (pv 0) rfl) (pe_lst (pa_cons (pv 4) pa_nil))) rfl)
    (pss_one (ps_ret (pe_lst (pa_cons pe_int (pa_cons (pe_callB call_len_seq (by rfl) T.len (by decide +kernel) (pa_cons (pe_fld (pv 0) rfl) pa_nil)) pa_nil)))))))), ?_⟩
    refine ⟨_, rfl, o, Ho, dx, _, _, rfl, ha, Hc.cls, Hc.grammar, rfl, _, rfl, _, rfl, _, rfl, gv, lv, rv, st, x, y, a, rfl, hg.mono del_ex, ok.g, hx, hy, hxn, hyn, fun n h => rz _ (t1 n h), fun p n h h2 => rz _ (t2 p n h h2), fun p q h h2 h3 => rz _ (t3 p q h h2 h3), fun p q h h2 h3 h4 => rz _ (t4 p q h h2 h3 h4), fun p q h h2 h3 h4 H1 v e1 hrv => ?_⟩
    have hwl' := del_ex _ _ hwl
    have ha1 := e1 _ _ ha
    have hlen := Paired.len hwp
    have hm16 := ok.many
    have nwl : wl ≠ o := fun q => by rw [q, del_same] at hwl; cases hwl
    refine ⟨_, rfl, o, Ho, dx, _, _, rfl, ha1, Hc.cls, Hc.rewritings, rfl, wl, _, rfl, .inl (SqL.of (e1 _ _ hwl')), _, _, rfl, rfl, _, rfl, ?_⟩
    show if decide ((16 : Int) ≤ (wvs.length : Int)) = true then _ else _
    by_cases h5 : 16 ≤ st.rules.length
    · rw [decide_eq_true (by omega)]
      refine iteT ?_
      exact ⟨_, rfl, _, rfl, fun d hd => ((rz _ (t5 p q h h2 h3 h4 h5)).mono e1).go d hd⟩
    · rw [decide_eq_false (by omega)]
      refine iteF ?_
      rw [t6 p q h h2 h3 h4 h5] at md
      refine ⟨_, rfl, o, Ho, dx, _, _, rfl, ha1, Hc.cls, Hc.rewritings, rfl, _, rfl, one_line, fun l1 hl1 => ?_⟩
      have e2 := Ex.new (o := .lst [v]) hl1
      have e12 := e1.tr e2
      refine ⟨wl, l1, wvs, [v], rfl, rfl, e12 _ _ hwl', upd_same, Nat.le_of_lt (small_lt (by simp; omega)), fun l2 hl2 => ?_⟩
      have ha2 := e12 _ _ ha
      have n2 : l2 ≠ o := fun q => by rw [q, ha2] at hl2; cases hl2
      refine ⟨_, rfl, o, Ho, dx, _, rfl, (Ex.new hl2) _ _ ha2, Hc.cls, Hc.rewritings, (show 4 < 1000 by decide), ?_⟩
      refine ⟨_, rfl, o, Ho, dx, _, _, rfl, upd_same, Hc.cls, Hc.rewritings, rfl, l2, _, rfl, .inl (SqL.of (by rw [upd_ne n2, upd_same])), two_line, fun l3 hl3 => ?_⟩
      have n3 : l3 ≠ o := fun q => by rw [q, upd_same] at hl3; cases hl3
      have n23 : l2 ≠ l3 := fun q => by rw [← q, upd_ne n2, upd_same] at hl3; cases hl3
      have hrd := rwV_ins ha1 hrv
      have key : ∀ (Hf : Hp), Hf o = some (.ins Ho dx (hfs gv (.ref l2) hv bv)) → Ex (del H1 o) (del Hf o) → del Hf o l2 = some (.lst (wvs ++ [v])) → H l3 = none → Hf l3 = some (.lst [V.int 0, V.int ((wvs ++ [v]).length : Int)]) → Q (.ref l3) Hf := fun Hf q1 q2 q3 q4 q5 => by
        have q0 := (del_mono e1).tr q2
        refine md Hf l3 q0 ⟨gv, .ref l2, hv, bv, q1, hg.mono q0, ⟨l2, _, rfl, q3, ?_⟩, hhe.mono q0, hb.mono q0⟩ q4 ?_
        · exact Paired.snoc (Paired.mono2 hwp fun v x q => RwV.mono q0 q) (hrd.mono q2)
        · rw [q5, List.length_append, hlen]; rfl
      have ex : Ex (del H1 o) (del (upd (upd (upd H1 l1 (.lst [v])) l2 (.lst (wvs ++ [v]))) o (.ins Ho dx (hfs gv (.ref l2) hv bv))) o) := by
        rw [del_upd_eq]
        exact (del_mono e2).tr (del_mono (Ex.new hl2))
      refine key _ (by rw [upd_ne (Ne.symm n3)]; exact upd_same) (ex.tr (del_mono (Ex.new hl3))) ?_ ?_ upd_same
      · rw [del_ne n2, upd_ne n23, upd_ne n2, upd_same]
      · exact fresh_del ((del_mono e1).tr ex) upd_same hl3
end
end TW
set_option Elab.async false
set_option linter.all false
set_option maxRecDepth 100000
set_option maxHeartbeats 4000000
namespace TW
open PySem PySem.Spec PyProof.Rows L2
open Vaglrc (Sym Rule Grammar Node)
open Vaglrj (State Held)
open TR (StOk kindsT Go NoHole GOk)
section
variable {P : Program} {w : World} {K : PySem.W.Frag} {mg : Str → Option Value} {base : Heap} {C fI G Ho L : Addr}
abbrev ruleRow (w : Vaglrj.Rewrite) : List Nat := w.non :: w.left.length :: (w.left ++ (w.right.length :: w.right))
def sp_Holder_told_rules (C G Ho : Addr) : Sp := fun vs H Q E => ∃ (a dx : Addr) (s : State), vs = [.ref a] ∧ HoldV G Ho H a dx s ∧ StOk s ∧ Told H Q (0 :: (s.rules.length : Int) :: Vaglrj.toInts (s.rules.flatMap ruleRow))
abbrev s_Holder_told_rules : Stmt := inClass (topS 64) 10
/-- 0 self, 1 found, 2 nonterminal, 3 left, 4 right -/
theorem sc_Holder_told_rules : FnScope ["self", "found", "nonterminal", "left", "right"] ["self"] (defScope s_Holder_told_rules) := ⟨rfl, rfl, rfl, by decide +kernel, rfl, by decide +kernel, by decide +kernel⟩
theorem ok_Holder_told_rules {f : Addr} {fd : FuncData} (F : Fun K "told_rules" "Holder.told_rules" s_Holder_told_rules f fd) (T : Glob mg) (Hc : HCls K Ho) : FnOk P w K mg base CX0 1 f fd ["self"] (sp_Holder_told_rules C G Ho) := by
  refine F.ok sc_Holder_told_rules (fun vs H Q E h => ?_) (fun cdv A outer s H vs Q E hr h => ?_)
  · obtain ⟨_, _, _, rfl, _⟩ := h
    rfl
  · obtain ⟨a, dx, st, rfl, ⟨gv, wv, hv, bv, ha, hg, ⟨wl, wvs, rfl, hwl, hwp⟩, hhe, hb⟩, ok, ret⟩ := h
    have hwl' := del_ex _ _ hwl
    have hlen := Paired.len hwp
    have hm16 := ok.many
    refine ⟨_, (pss_cons (ps_set (i := 1) sc_Holder_told_rules.nd rfl (Or.inl rfl) (pe_lst (pa_cons pe_int (pa_cons (pe_callB call_len_seq (by rfl) T.len (by decide +kernel) (pa_cons (pe_fld (pv 0) rfl) pa_nil)) pa_nil))))
    (pss_cons (ps_for PassesOwn.never rfl (pi_list (pe_fld (pv 0) rfl)) (pg_tup rfl (pgs_cons (pg_name (i := 2) sc_Holder_told_rules.nd rfl (Or.inl rfl)) (pgs_cons (pg_name (i := 3) sc_Holder_told_rules.nd rfl (Or.inl rfl)) (pgs_cons (pg_name (i := 4) sc_Holder_told_rules.nd rfl (Or.inl rfl)) pgs_nil))))
    (pss_one (ps_expr (pe_bm PySem.F.plainAttrs_list PySem.F.slot_list_extend PySem.F.type_list_extend mt_extend (pv 1) (pa_cons (pe_op op_cat (pe_op op_cat (pe_op op_cat (pe_lst (pa_cons (pv 2) (pa_cons (pe_callB call_len_seq (by rfl) T.len (by decide +kernel) (pa_cons (pv 3) pa_nil)) pa_nil))) (pv 3)) (pe_lst (pa_cons (pe_callB call_len_seq (by rfl) T.len (by decide +kernel) (pa_cons (pv 4) pa_nil)) pa_nil))) (pv 4)) pa_nil)))))
    (pss_one (ps_ret (pv 1))))), ?_⟩
    refine ⟨_, rfl, a, Ho, dx, _, _, rfl, ha, Hc.cls, Hc.rewritings, rfl, wl, _, rfl, .inl (SqL.of hwl'), two_line, fun fl hfl => ?_⟩
    have e0 := Ex.new (o := .lst [V.int 0, V.int (wvs.length : Int)]) hfl
    refine ⟨_, rfl, a, Ho, dx, _, _, rfl, e0 _ _ ha, Hc.cls, Hc.rewritings, rfl, wl, rfl, ⟨_, SqL.of (e0 _ _ hwl')⟩, for_list (K := K) (a := wl) (xs := wvs) (fun i σ H' => ∃ (v2 v3 v4 : Option V), σ = [some (.ref a), some (.ref fl), v2, v3, v4] ∧ Ex H H' ∧ H' fl = some (.lst ((0 :: (st.rules.length : Int) :: Vaglrj.toInts ((st.rules.take i).flatMap ruleRow)).map V.int)) ∧ ((st.rules.take i).flatMap ruleRow).length ≤ 810 * i)
      ⟨none, none, none, rfl, e0, by rw [upd_same, hlen]; rfl, Nat.zero_le _⟩ (fun j σ H' _ ⟨_, _, _, _, e, _⟩ => SqL.of (e _ _ hwl')) ?_ ?_⟩
    · rintro i v σ H1 hi ⟨v2, v3, v4, rfl, e1, hf1, hfn⟩
      obtain ⟨z, hz, hzv⟩ := Paired.at' hwp hi
      have hzm := List.mem_of_getElem? hz
      have hil := (List.getElem?_eq_some_iff.mp hz).1
      obtain ⟨SL, SR, _, _, tl, tr, _⟩ := (ok.rules z hzm).ex
      have hl4 := tl.len
      have hr4 := tr.len
      have htk : (st.rules.take (i + 1)).flatMap ruleRow = (st.rules.take i).flatMap ruleRow ++ ruleRow z := by
        rw [List.take_succ, hz, List.flatMap_append]; simp
      obtain ⟨ta, tb, tc, rfl, h1, h2, h3⟩ := hzv
      have h1' := e1 _ _ (del_ex _ _ h1)
      have h2' := e1 _ _ (del_ex _ _ h2)
      have h3' := e1 _ _ (del_ex _ _ h3)
      refine ⟨ta, _, rfl, SqT.of h1', rfl, _, _, rfl, _, _, rfl, _, _, rfl, rfl, ?_⟩
      refine ⟨_, rfl, .inl ⟨rfl, _, SqL.of hf1⟩, ?_⟩
      refine ⟨_, rfl, _, rfl, tb, _, rfl, .inl (SqL.of h2'), two_line, fun p1 hp1 => ?_⟩
      have a1 := Ex.new (o := .lst [vN z.non, V.int ((z.left.map vN).length : Int)]) hp1
      refine ⟨_, rfl, p1, tb, _, _, rfl, rfl, upd_same, a1 _ _ h2', Nat.le_of_lt (small_lt (by simp; omega)), fun p2 hp2 => ?_⟩
      have a2 := a1.tr (Ex.new (o := .lst ([vN z.non, V.int ((z.left.map vN).length : Int)] ++ z.left.map vN)) hp2)
      refine ⟨_, rfl, tc, _, rfl, .inl (SqL.of (a2 _ _ h3')), one_line, fun p3 hp3 => ?_⟩
      have b3 := Ex.new (o := .lst [V.int ((z.right.map vN).length : Int)]) hp3
      refine ⟨p2, p3, _, _, rfl, rfl, b3 _ _ upd_same, upd_same, Nat.le_of_lt (small_lt (by simp; omega)), fun p4 hp4 => ?_⟩
      have a4 := (a2.tr b3).tr (Ex.new (o := .lst (([vN z.non, V.int ((z.left.map vN).length : Int)] ++ z.left.map vN) ++ [V.int ((z.right.map vN).length : Int)])) hp4)
      refine ⟨_, rfl, p4, tc, _, _, rfl, rfl, upd_same, a4 _ _ h3', Nat.le_of_lt (small_lt (by simp; omega)), fun p5 hp5 => ?_⟩
      have a5 := a4.tr (Ex.new (o := .lst ((([vN z.non, V.int ((z.left.map vN).length : Int)] ++ z.left.map vN) ++ [V.int ((z.right.map vN).length : Int)]) ++ z.right.map vN)) hp5)
      have hrl : (ruleRow z).length ≤ 810 := by simp; omega
      have hfa := a5 _ _ hf1
      refine ⟨fl, p5, _, _, rfl, rfl, hfa, upd_same, Nat.le_of_lt (small_lt ?_), ?_⟩
      · generalize (st.rules.take i).flatMap ruleRow = xs at hfn
        have hpl : (List.map V.int (0 :: (st.rules.length : Int) :: Vaglrj.toInts xs)).length = xs.length + 2 := by
          unfold Vaglrj.toInts; simp only [List.length_map, List.length_cons]
        rw [hpl]
        simp only [List.length_append, List.length_cons, List.length_map, List.length_nil]
        omega
      refine ⟨_, _, _, rfl, (e1.tr a5).mut hfl, ?_, ?_⟩
      · rw [upd_same, htk]
        generalize (st.rules.take i).flatMap ruleRow = xs
        unfold Vaglrj.toInts
        simp [vN]
        rfl
      · rw [htk, List.length_append]; omega
    · rintro σ H1 ⟨v2, v3, v4, rfl, e1, hf1, hfn⟩
      rw [hlen, List.take_length] at hf1
      exact ⟨_, rfl, ret H1 fl e1 hfl hf1⟩
end
end TW
set_option Elab.async false
set_option linter.all false
set_option maxRecDepth 100000
set_option maxHeartbeats 4000000
namespace TW
open PySem PySem.Spec PyProof.Rows L2
open Vaglrc (Sym Rule Grammar Node)
open Vaglrj (State Held)
open TR (StOk kindsT Go NoHole GOk trues)
theorem onHeld_none {s : State} {f : Held → State × Vaglrj.Answer} (h : s.held = none) : Vaglrj.onHeld s f = (s, [-9]) := by
  unfold Vaglrj.onHeld; rw [h]
theorem onHeld_some {s : State} {f : Held → State × Vaglrj.Answer} {o : Held} (h : s.held = some o) : Vaglrj.onHeld s f = f o := by
  unfold Vaglrj.onHeld; rw [h]
theorem onRule_bad {s : State} {r : Int} {f : Vaglrj.Rewrite → State × Vaglrj.Answer} (h : ¬ (0 ≤ r ∧ r < s.rules.length)) : Vaglrj.onRule s r f = (s, [-8]) := by
  unfold Vaglrj.onRule
  by_cases h1 : r < 0
  · rw [if_pos h1]
  · rw [if_neg h1, List.getElem?_eq_none (by omega)]
theorem onRule_some {s : State} {r : Int} {f : Vaglrj.Rewrite → State × Vaglrj.Answer} {z : Vaglrj.Rewrite} (h : 0 ≤ r) (hz : s.rules[r.toNat]? = some z) : Vaglrj.onRule s r f = f z := by
  unfold Vaglrj.onRule
  rw [if_neg (by omega), hz]
theorem nodes_has {g : Grammar} (ok : GOk g) {a : Nat} {y : List Nat} (h : Go g NoHole [.non a] y []) {i : Nat} : Vaglrc.has i (Vaglrj.nodesOf g a y) = true ↔ (kindsT g a y)[i]? = some true := by
  rw [TR.has_iff, TR.nodesOf_eq ok h, TR.mem_trues]
  simp
theorem placesOf_eq {g : Grammar} (ok : GOk g) {a : Nat} {y : List Nat} (h : Go g NoHole [.non a] y []) {z : Vaglrj.Rewrite} : Vaglrj.placesOf g a z y = (trues 0 (kindsT g a y)).filter fun i => (Vaglrj.matchAt g z y i).isSome := by
  unfold Vaglrj.placesOf
  rw [TR.nodesOf_eq ok h]
section
variable {P : Program} {w : World} {K : PySem.W.Frag} {mg : Str → Option Value} {base : Heap} {C fI G Ho L : Addr}
def sp_Holder_told_places (C G Ho : Addr) : Sp := fun vs H Q E => ∃ (a dx : Addr) (s : State) (r : Int), vs = [.ref a, .int r] ∧ HoldV G Ho H a dx s ∧ StOk s ∧ EndsC G Ho C H Q E a dx s (Vaglrj.step s (.places r))
abbrev s_Holder_told_places : Stmt := inClass (topS 64) 13
/-- 0 self, 1 r, 2 laid, 3 rewriting, 4 found, 5 at, 6 node -/
theorem sc_Holder_told_places : FnScope ["self", "r", "laid", "rewriting", "found", "at", "node"] ["self", "r"] (defScope s_Holder_told_places) := ⟨rfl, rfl, rfl, by decide +kernel, rfl, by decide +kernel, by decide +kernel⟩
theorem ok_Holder_told_places {f : Addr} {fd : FuncData} (F : Fun K "told_places" "Holder.told_places" s_Holder_told_places f fd) (T : Glob mg) (Hc : HCls K Ho) (Gc : GCls K G) (Lc : LCls K L) (F_holes_at : FnC P w K mg base CX0 3 "holes_at" ["rules", "laid", "rewriting", "at"] (sp_holes_at L)) (F_Holder_held_laid : MthC P w K mg base (L2.CX P w) 4 Ho "held_laid" ["self"] (sp_Holder_held_laid C G Ho L))
    (F_Holder_rewriting : MthC P w K mg base (L2.CX P w) 2 Ho "rewriting" ["self", "r"] (sp_Holder_rewriting C G Ho)) : FnOk P w K mg base (L2.CX P w) 5 f fd ["self", "r"] (sp_Holder_told_places C G Ho) := by
  refine F.okX sc_Holder_told_places (fun vs H Q E h => ?_) (fun cdv A outer s H vs Q E hr h => ?_)
  · obtain ⟨_, _, _, _, rfl, _⟩ := h
    rfl
  · obtain ⟨a, dx, st, r, rfl, hH, ok, ends⟩ := h
    have hH0 := hH
    obtain ⟨gv, wv, hv, bv, ha, ⟨ga, gdx, gfs, grv, rfl, hga, hgm, hgr, hR⟩, hw, hhe, hb⟩ := hH
    refine ⟨_, (pss_cons (ps_set (i := 2) sc_Holder_told_places.nd rfl (Or.inl rfl) (pe_mc0 (pv 0) F_Holder_held_laid (hr.mono (by decide)) (passX rfl rfl rfl rfl)))
    (pss_cons (ps_set (i := 3) sc_Holder_told_places.nd rfl (Or.inl rfl) (pe_mc (pv 0) F_Holder_rewriting (hr.mono (by decide)) (passX rfl rfl rfl rfl) (pa_cons (pv 1) pa_nil)))
    (pss_cons (ps_set (i := 4) sc_Holder_told_places.nd rfl (Or.inl rfl) (pe_lst pa_nil))
    (pss_cons (ps_for (passes_of rfl) rfl (pi_enum (by rfl) T.enumerate (pa_cons (pe_fld (pv 2) rfl) pa_nil)) (pg_tup rfl (pgs_cons (pg_name (i := 5) sc_Holder_told_places.nd rfl (Or.inl rfl)) (pgs_cons (pg_name (i := 6) sc_Holder_told_places.nd rfl (Or.inl rfl)) pgs_nil)))
    (pss_one (ps_if (PW.pt (pw_and (pt_val (pv 6)) (pw_and1 (pt_cmpR op_notN (pe_fc F_holes_at (hr.mono (by decide)) pass0 (pa_cons (pe_fld (pe_fld (pv 0) rfl) rfl) (pa_cons (pv 2) (pa_cons (pv 3) (pa_cons (pv 5) pa_nil))))) pe_non (nomark _)))))
    (pss_one (ps_expr (pe_bm PySem.F.plainAttrs_list PySem.F.slot_list_append PySem.F.type_list_append mt_append (pv 4) (pa_cons (pv 5) pa_nil))))
    pss_nil)))
    (pss_one (ps_ret (pe_op op_cat (pe_lst (pa_cons pe_int (pa_cons (pe_callB call_len_seq (by rfl) T.len (by decide +kernel) (pa_cons (pv 4) pa_nil)) pa_nil))) (pv 4)))))))), ?_⟩
    refine ⟨_, rfl, a, dx, _, rfl, ha, rfl, a, dx, st, rfl, hH0, ok, fun h => ends.rz _ (onHeld_none h), fun h v H1 hst e1 hL => ?_⟩
    have hk := ok.held h hst
    have ha1 := e1 _ _ ha
    have hsp : ∀ x, Vaglrj.onRule st r (fun w => (st, 0 :: Vaglrj.toInts ((Vaglrj.placesOf st.grammar h.non w h.term).length :: Vaglrj.placesOf st.grammar h.non w h.term))) = x → Vaglrj.step st (.places r) = x := fun x q => (onHeld_some hst).trans q
    refine ⟨_, rfl, a, dx, _, rfl, ha1, rfl, _, rfl, a, dx, st, r, rfl, hH0.mono e1, fun h => (ends.rz _ (hsp _ (onRule_bad h))).mono e1, fun z zv h0 hz hzv => ?_⟩
    have hzok := ok.rules z (List.mem_of_getElem? hz)
    have ret := ends.told hH0 (hsp _ (onRule_some h0 hz))
    have hzv := hzv.mono del_ex
    have hL0 := hL
    obtain ⟨lb, ldx, fs, nv, kv, sv, rfl, hb, l1, l2, l3, hny, ⟨kl, rfl, hkl⟩, hsy⟩ := hL
    have hkn : (kindsT st.grammar h.non h.term).length = h.term.length := TR.kinds_length hk.go
    have hk4 := hk.len
    refine ⟨nil_line, fun fl hfl => ?_⟩
    have e2 : Ex H1 (upd H1 fl (.lst [])) := Ex.new hfl
    refine ⟨_, rfl, lb, L, ldx, fs, _, rfl, e2 _ _ hb, Lc.cls, Lc.nodes, l2, kl, _, rfl, SqL.of (e2 _ _ hkl), for_it (walk_enum (xs := (kindsT st.grammar h.non h.term).map V.bl)) (fun i σ H' => ∃ (v5 v6 : Option V), σ = [some (.ref a), some (.int r), some (.ref lb), some zv, some (.ref fl), v5, v6] ∧ Ex H1 H' ∧
      H' fl = some (.lst (((trues 0 ((kindsT st.grammar h.non h.term).take i)).filter fun i => (Vaglrj.matchAt st.grammar z h.term i).isSome).map vN)) ∧ ((trues 0 ((kindsT st.grammar h.non h.term).take i)).filter fun i => (Vaglrj.matchAt st.grammar z h.term i).isSome).length ≤ i) ⟨none, none, rfl, e2, upd_same, Nat.le_refl _⟩ (fun i σ H' _ ⟨_, _, _, e, _⟩ => SqL.of (e _ _ hkl)) ?_ ?_⟩
    · rintro i v σ H2 H3 hi ⟨v5, v6, rfl, e3, hf, hfn⟩ ⟨T', x1, x2, rfl, hT, rfl, hx1, hx2⟩
      cases hx1
      have hx2 : ((kindsT st.grammar h.non h.term).map V.bl)[i]? = some x2 := hx2
      rw [List.getElem?_map] at hx2
      obtain ⟨kb, hkb, rfl⟩ := Option.map_eq_some_iff.mp hx2
      have hil := (List.getElem?_eq_some_iff.mp hkb).1
      have e4 : Ex H2 (upd H2 T' (.tup [V.int (i : Nat), V.bl kb])) := Ex.new hT
      refine ⟨T', _, rfl, SqT.of upd_same, rfl, _, _, rfl, _, _, rfl, rfl, ?_⟩
      have e14 := e3.tr e4
      generalize upd H2 T' (.tup [V.int (i : Nat), V.bl kb]) = H3 at e4 e14
      have hf3 := e4 _ _ hf
      rw [TR.trues_more hkb, List.filter_append, List.map_append, List.length_append]
      refine ⟨_, rfl, kb, rfl, ?_⟩
      cases kb with
      | false =>
        refine iteF ⟨_, _, rfl, e14, ?_, ?_⟩
        · rw [hf3]; simp
        · simp; omega
      | true =>
        refine iteT ?_
        refine ⟨_, rfl, a, Ho, dx, _, _, rfl, e14 _ _ ha1, Hc.cls, Hc.grammar, rfl, ga, G, gdx, gfs, _, rfl, e14 _ _ (e1 _ _ (del_ex _ _ hga)), Gc.cls, Gc.rules, hgr, _, rfl, _, rfl, _, rfl, grv, .ref lb, zv, st.grammar, h.term, h.non, i, z, rfl, (hR.mono del_ex).mono (e1.tr e14), hL0.mono e14, hzv.mono e14, ok.g, hk.go, hk.len, hzok, hkb, fun hm H6 e6 => ?_, fun b rr H6 bv hm e6 hM => ?_⟩
        · refine ⟨rfl, _, rfl, iteF ?_⟩
          refine ⟨_, _, rfl, e14.tr e6, ?_, ?_⟩
          · rw [e6 _ _ hf3]; simp [hm]
          · simp [hm]; omega
        · have hvn : bv ≠ .non := by obtain ⟨⟨p, _, rfl, _⟩, _⟩ := hM; exact fun e => by cases e
          refine ⟨rfl, _, rfl, ?_⟩
          rw [decide_eq_false hvn]
          refine iteT ?_
          have hf6 := e6 _ _ hf3
          refine ⟨_, rfl, .inl ⟨rfl, _, SqL.of hf6⟩, _, rfl, fl, _, _, rfl, rfl, hf6, small_lt ?_, _, _, rfl, (e14.tr e6).mut hfl, ?_, ?_⟩
          · rw [List.length_map]; omega
          · rw [upd_same]; simp [hm]; rfl
          · simp [hm]; omega
    · rintro σ H2 ⟨v5, v6, rfl, e3, hf, hfn⟩
      rw [List.length_map, List.take_length] at hf hfn
      rw [← placesOf_eq ok.g hk.go] at hf hfn
      refine ⟨_, rfl, fl, _, rfl, .inl (SqL.of hf), two_line, fun p1 hp1 => ?_⟩
      have e4 := Ex.new (o := .lst [V.int 0, V.int (((Vaglrj.placesOf st.grammar h.non z h.term).map vN).length : Int)]) hp1
      refine ⟨_, rfl, p1, fl, _, _, rfl, rfl, upd_same, e4 _ _ hf, Nat.le_of_lt (small_lt (by simp; omega)), fun p2 hp2 => ?_⟩
      refine ret _ p2 (((e1.tr e3).tr e4).tr (Ex.new hp2)) (((e1.tr e3).tr e4).back hp2) ?_
      rw [upd_same, List.length_map]
      unfold Vaglrj.toInts
      simp [vN]
end
end TW
set_option Elab.async false
set_option linter.all false
set_option maxRecDepth 100000
set_option maxHeartbeats 4000000
namespace TW
open PySem PySem.Spec PyProof.Rows L2
open Vaglrc (Sym Rule Grammar Node)
open Vaglrj (State Held)
open TR (StOk kindsT Go NoHole GOk trues)
theorem matchRow_len {g : Grammar} : ∀ {p y : List Nat} {b0 b : Vaglrj.Binding} {r : List Nat}, Vaglrj.matchRow g p y b0 = some (b, r) → b.length ≤ b0.length + p.length
  | [], y, b0, b, r, h => by
    cases h; simp
  | c :: p, y, b0, b, r, h => by
    unfold Vaglrj.matchRow at h
    by_cases hc : Vaglrj.isHole c = true
    · rw [if_pos hc] at h
      cases hs : Vaglrj.subTerm g y with
      | none => rw [hs] at h; cases h
      | some tr =>
        obtain ⟨t, r'⟩ := tr
        rw [hs] at h
        dsimp only at h
        cases hb : Vaglrj.bound b0 (c - Vaglrj.HOLE) with
        | none =>
          rw [hb] at h
          have := matchRow_len h
          simp at this ⊢; omega
        | some u =>
          rw [hb] at h
          dsimp only at h
          by_cases hu : (u == t) = true
          · rw [if_pos hu] at h
            have := matchRow_len h
            simp at this ⊢; omega
          · rw [if_neg hu] at h; cases h
    · rw [if_neg hc] at h
      cases y with
      | nil => cases h
      | cons d r' =>
        dsimp only at h
        by_cases hu : (c == d) = true
        · rw [if_pos hu] at h
          have := matchRow_len h
          simp at this ⊢; omega
        · rw [if_neg hu] at h; cases h
theorem matchAt_len {g : Grammar} {z : Vaglrj.Rewrite} {y : List Nat} {i : Nat} {b : Vaglrj.Binding} {r : List Nat} (h : Vaglrj.matchAt g z y i = some (b, r)) : b.length ≤ z.left.length := by
  unfold Vaglrj.matchAt at h
  cases hy : y[i]? with
  | none => rw [hy] at h; cases h
  | some c =>
    rw [hy] at h
    dsimp only at h
    by_cases hc : (Vaglrj.lhsOf g c == some z.non) = true
    · rw [if_pos hc] at h
      have := matchRow_len h
      simpa using this
    · rw [if_neg hc] at h; cases h
section
variable {P : Program} {w : World} {K : PySem.W.Frag} {mg : Str → Option Value} {base : Heap} {C fI G Ho L : Addr}
abbrev holeRow (p : Nat × List Nat) : List Nat := p.1 :: p.2.length :: p.2
theorem binds_held {s : State} {r i : Int} {h : Held} {x : State × List Int} (hst : s.held = some h) (q : Vaglrj.onRule s r (fun w =>
  if i < 0 then (s, [-17])
  else if !(Vaglrc.has i.toNat (Vaglrj.nodesOf s.grammar h.non h.term)) then (s, [-17])
  else match Vaglrj.matchAt s.grammar w h.term i.toNat with
    | none => (s, [1])
    | some m => (s, 0 :: Vaglrj.toInts (m.1.length :: m.1.flatMap (fun p => p.1 :: p.2.length :: p.2)))) = (s, x.2)) : Vaglrj.step s (.binds r i) = (s, x.2) := by
  show (s, Vaglrj.bindsAnswer s r i) = _
  unfold Vaglrj.bindsAnswer
  rw [onHeld_some hst]
  exact congrArg (a₂ := (s, x.2)) (fun t : State × List Int => (s, t.2)) q
theorem binds_rule {s : State} {r i : Int} {h : Held} {z : Vaglrj.Rewrite} {x : List Int} (hst : s.held = some h) (h0 : 0 ≤ r) (hz : s.rules[r.toNat]? = some z) (q : 
  (if i < 0 then (s, [-17])
  else if !(Vaglrc.has i.toNat (Vaglrj.nodesOf s.grammar h.non h.term)) then (s, [-17])
  else match Vaglrj.matchAt s.grammar z h.term i.toNat with
    | none => (s, [1])
    | some m => (s, 0 :: Vaglrj.toInts (m.1.length :: m.1.flatMap (fun p => p.1 :: p.2.length :: p.2)))) = (s, x)) : Vaglrj.step s (.binds r i) = (s, x) :=
  binds_held (x := (s, x)) hst ((onRule_some h0 hz).trans q)
def sp_Holder_told_binds (C G Ho : Addr) : Sp := fun vs H Q E => ∃ (a dx : Addr) (s : State) (r i : Int), vs = [.ref a, .int r, .int i] ∧ HoldV G Ho H a dx s ∧ StOk s ∧ EndsC G Ho C H Q E a dx s (Vaglrj.step s (.binds r i))
abbrev s_Holder_told_binds : Stmt := inClass (topS 64) 14
/-- 0 self, 1 r, 2 i, 3 laid, 4 holes, 5 found, 6 number, 7 part -/
theorem sc_Holder_told_binds : FnScope ["self", "r", "i", "laid", "holes", "found", "number", "part"] ["self", "r", "i"] (defScope s_Holder_told_binds) := ⟨rfl, rfl, rfl, by decide +kernel, rfl, by decide +kernel, by decide +kernel⟩
theorem ok_Holder_told_binds {f : Addr} {fd : FuncData} (F : Fun K "told_binds" "Holder.told_binds" s_Holder_told_binds f fd) (T : Glob mg) (F_Holder_holes_of : MthC P w K mg base (L2.CX P w) 4 Ho "holes_of" ["self", "laid", "rewriting", "i"] (sp_Holder_holes_of C G Ho L)) (F_Holder_held_laid : MthC P w K mg base (L2.CX P w) 4 Ho "held_laid" ["self"] (sp_Holder_held_laid C G Ho L))
    (F_Holder_rewriting : MthC P w K mg base (L2.CX P w) 2 Ho "rewriting" ["self", "r"] (sp_Holder_rewriting C G Ho)) : FnOk P w K mg base (L2.CX P w) 5 f fd ["self", "r", "i"] (sp_Holder_told_binds C G Ho) := by
  refine F.okX sc_Holder_told_binds (fun vs H Q E h => ?_) (fun cdv A outer s H vs Q E hr h => ?_)
  · obtain ⟨_, _, _, _, _, rfl, _⟩ := h
    rfl
  · obtain ⟨a, dx, st, r, i, rfl, hH, ok, ends⟩ := h
    have hH0 := hH
    obtain ⟨gv, wv, hv, bv, ha, _⟩ := hH
    refine ⟨_, (pss_cons (ps_set (i := 3) sc_Holder_told_binds.nd rfl (Or.inl rfl) (pe_mc0 (pv 0) F_Holder_held_laid (hr.mono (by decide)) (passX rfl rfl rfl rfl)))
    (pss_cons (ps_set (i := 4) sc_Holder_told_binds.nd rfl (Or.inl rfl) (pe_mc (pv 0) F_Holder_holes_of (hr.mono (by decide)) (passX rfl rfl rfl rfl) (pa_cons (pv 3) (pa_cons (pe_mc (pv 0) F_Holder_rewriting (hr.mono (by decide)) (passX rfl rfl rfl rfl) (pa_cons (pv 1) pa_nil)) (pa_cons (pv 2) pa_nil)))))
    (pss_cons (ps_if (pt_cmpR op_isN (pv 4) pe_non (nomark _))
    (pss_one (ps_ret (pe_lst (pa_cons pe_int pa_nil))))
    pss_nil)
    (pss_cons (ps_set (i := 5) sc_Holder_told_binds.nd rfl (Or.inl rfl) (pe_lst (pa_cons pe_int (pa_cons (pe_callB call_len_seq (by rfl) T.len (by decide +kernel) (pa_cons (pv 4) pa_nil)) pa_nil))))
    (pss_cons (ps_for (passes_of rfl) rfl (pi_list (pv 4)) (pg_tup rfl (pgs_cons (pg_name (i := 6) sc_Holder_told_binds.nd rfl (Or.inl rfl)) (pgs_cons (pg_name (i := 7) sc_Holder_told_binds.nd rfl (Or.inl rfl)) pgs_nil)))
    (pss_one (ps_expr (pe_bm PySem.F.plainAttrs_list PySem.F.slot_list_extend PySem.F.type_list_extend mt_extend (pv 5) (pa_cons (pe_op op_cat (pe_lst (pa_cons (pv 6) (pa_cons (pe_callB call_len_seq (by rfl) T.len (by decide +kernel) (pa_cons (pv 7) pa_nil)) pa_nil))) (pv 7)) pa_nil)))))
    (pss_one (ps_ret (pv 5)))))))), ?_⟩
    refine ⟨_, rfl, a, dx, _, rfl, ha, rfl, a, dx, st, rfl, hH0, ok, fun h => ends.rz (-9) ?_, fun h v H1 hst e1 hL => ?_⟩
    · show (st, Vaglrj.bindsAnswer st r i) = _
      unfold Vaglrj.bindsAnswer
      rw [onHeld_none h]
    have hk := ok.held h hst
    have ha1 := e1 _ _ ha
    refine ⟨_, rfl, a, dx, _, rfl, ha1, rfl, _, rfl, _, rfl, a, dx, _, rfl, ha1, rfl, _, rfl, a, dx, st, r, rfl, hH0.mono e1, fun h2 => (ends.rz (-8) (binds_held (x := (st, [-8])) hst (onRule_bad h2))).mono e1, fun z zv h0 hz hzv => ?_⟩
    have hzok := ok.rules z (List.mem_of_getElem? hz)
    have hzv := hzv.mono del_ex
    have hnh := nodes_has ok.g hk.go (i := i.toNat)
    refine ⟨_, rfl, a, dx, st, v, zv, h, z, i, rfl, hH0.mono e1, ok, hst, hL, hzv, hzok, fun hn => (ends.rz (-17) (binds_rule hst h0 hz ?_)).mono e1, fun hi0 hkb hm H2 e2 => ?_, fun b rr H2 bv2 hi0 hkb hm e2 hM => ?_⟩
    · by_cases hi0 : i < 0
      · rw [if_pos hi0]
      · rw [if_neg hi0, if_pos (by
          rw [Bool.not_eq_true']
          exact Bool.not_eq_true _ ▸ fun q => hn ⟨by omega, hnh.mp q⟩)]
    · have q := binds_rule hst h0 hz (x := [1]) (i := i) (by rw [if_neg (by omega), hnh.mpr hkb, hm]; rfl)
      have ret := ends.told hH0 q
      refine ⟨_, rfl, rfl, _, rfl, iteT ?_⟩
      exact ⟨one_line, fun l3 hl3 => ret _ l3 ((e1.tr e2).tr (Ex.new hl3)) ((e1.tr e2).back hl3) upd_same⟩
    · have q := binds_rule hst h0 hz (x := 0 :: Vaglrj.toInts (b.length :: b.flatMap holeRow)) (i := i) (by rw [if_neg (by omega), hnh.mpr hkb, hm]; rfl)
      have ret := ends.told hH0 q
      obtain ⟨SL, SR, _, _, tl, _⟩ := hzok.ex
      have hbl := matchAt_len hm
      have htl := tl.len
      obtain ⟨⟨bl, bvs, rfl, hbv, hbp⟩, hb4⟩ := hM
      refine ⟨_, rfl, rfl, _, rfl, iteF ?_⟩
      have hlen := Paired.len hbp
      refine ⟨_, rfl, bl, _, rfl, .inl (SqL.of hbv), two_line, fun fl hfl => ?_⟩
      have e3 : Ex H2 (upd H2 fl (.lst [V.int 0, V.int (bvs.length : Int)])) := Ex.new hfl
      refine ⟨_, rfl, bl, rfl, ⟨_, SqL.of (e3 _ _ hbv)⟩, for_list (K := K) (a := bl) (xs := bvs) (fun j σ H' => ∃ (v6 v7 : Option V), σ = [some (.ref a), some (.int r), some (.int i), some v, some (.ref bl), some (.ref fl), v6, v7] ∧ Ex H2 H' ∧ H' fl = some (.lst ((0 :: Vaglrj.toInts (b.length :: (b.take j).flatMap holeRow)).map V.int)) ∧ ((b.take j).flatMap holeRow).length ≤ 410 * j)
        ⟨none, none, rfl, e3, by rw [upd_same, hlen]; rfl, Nat.zero_le _⟩ (fun j σ H' _ ⟨_, _, _, e, _⟩ => SqL.of (e _ _ hbv)) ?_ ?_⟩
      · rintro j v' σ H3 hj ⟨v6, v7, rfl, e4, hf, hfn⟩
        obtain ⟨p, hp, ⟨ta, tq, rfl, hta, ⟨tb, rfl, htb⟩⟩⟩ := Paired.at' hbp hj
        have hpm := List.mem_of_getElem? hp
        have hjl := (List.getElem?_eq_some_iff.mp hp).1
        have hp4 := hb4 _ hpm
        have htk : (b.take (j + 1)).flatMap holeRow = (b.take j).flatMap holeRow ++ holeRow p := by
          rw [List.take_succ, hp, List.flatMap_append]; simp
        have h1' := e4 _ _ hta
        have h2' := e4 _ _ htb
        refine ⟨ta, _, rfl, SqT.of h1', rfl, _, _, rfl, _, _, rfl, rfl, ?_⟩
        refine ⟨_, rfl, .inl ⟨rfl, _, SqL.of hf⟩, ?_⟩
        refine ⟨_, rfl, _, rfl, tb, _, rfl, .inl (SqL.of h2'), two_line, fun p1 hp1 => ?_⟩
        have a1 := Ex.new (o := .lst [vN p.1, V.int ((p.2.map vN).length : Int)]) hp1
        refine ⟨_, rfl, p1, tb, _, _, rfl, rfl, upd_same, a1 _ _ h2', Nat.le_of_lt (small_lt (by simp; omega)), fun p2 hp2 => ?_⟩
        have a2 := a1.tr (Ex.new (o := .lst ([vN p.1, V.int ((p.2.map vN).length : Int)] ++ p.2.map vN)) hp2)
        have hrl : (holeRow p).length ≤ 410 := by simp; omega
        refine ⟨fl, p2, _, _, rfl, rfl, a2 _ _ hf, upd_same, Nat.le_of_lt (small_lt ?_), ?_⟩
        · generalize (b.take j).flatMap holeRow = xs at hfn
          have hpl : (List.map V.int (0 :: Vaglrj.toInts (b.length :: xs))).length = xs.length + 2 := by
            unfold Vaglrj.toInts; simp only [List.length_map, List.length_cons]
          rw [hpl]
          simp only [List.length_append, List.length_cons, List.length_map, List.length_nil]
          omega
        refine ⟨_, _, rfl, (e4.tr a2).mut hfl, ?_, ?_⟩
        · rw [upd_same, htk]
          generalize (b.take j).flatMap holeRow = xs
          unfold Vaglrj.toInts
          simp [vN]
        · rw [htk, List.length_append]; omega
      · rintro σ H3 ⟨v6, v7, rfl, e4, hf, hfn⟩
        rw [hlen, List.take_length] at hf
        exact ⟨_, rfl, ret H3 fl ((e1.tr e2).tr e4) ((e1.tr e2).back hfl) hf⟩
end
end TW
set_option Elab.async false
set_option linter.all false
set_option maxRecDepth 100000
set_option maxHeartbeats 4000000
namespace TW
open PySem PySem.Spec PyProof.Rows L2
open Vaglrc (Sym Rule Grammar Node)
open Vaglrj (State Held)
open TR (StOk kindsT Go NoHole GOk trues)
section
variable {P : Program} {w : World} {K : PySem.W.Frag} {mg : Str → Option Value} {base : Heap} {C fI G Ho L : Addr}
theorem made_great {s : State} {h : Held} {z : List Nat} {l : Vaglrj.Answer} (q : 400 < z.length) : Vaglrj.made s h z l = (s, [-12]) := if_pos q
theorem made_fit {s : State} {h : Held} {z : List Nat} {l : Vaglrj.Answer} (q : ¬ 400 < z.length) : Vaglrj.made s h z l = (Vaglrj.hold s { h with term := z }, l) := if_neg q
def sp_Holder_do_step (C G Ho : Addr) : Sp := fun vs H Q E => ∃ (a dx : Addr) (s : State), vs = [.ref a] ∧ HoldV G Ho H a dx s ∧ StOk s ∧ EndsC G Ho C H Q E a dx s (Vaglrj.step s .step)
abbrev s_Holder_do_step : Stmt := inClass (topS 64) 15
/-- 0 self, 1 found, 2 number, 3 at, 4 term -/
theorem sc_Holder_do_step : FnScope ["self", "found", "number", "at", "term"] ["self"] (defScope s_Holder_do_step) := ⟨rfl, rfl, rfl, by decide +kernel, rfl, by decide +kernel, by decide +kernel⟩
theorem ok_Holder_do_step {f : Addr} {fd : FuncData} (F : Fun K "do_step" "Holder.do_step" s_Holder_do_step f fd) (T : Glob mg) (Hc : HCls K Ho) (Gc : GCls K G) (Rf : PySem.RfX.RfTxt K mg C fI) (F_first_going : FnC P w K mg base CX0 4 "first_going" ["rules", "rewritings", "numbers"] sp_first_going) (F_Holder_held_term : MthC P w K mg base (L2.CX P w) 2 Ho "held_term" ["self"] (sp_Holder_held_term C G Ho))
    (F_Holder_hold : MthC P w K mg base CX0 1 Ho "hold" ["self", "nonterminal", "term"] (sp_Holder_hold G Ho)) : FnOk P w K mg base (L2.CX P w) 5 f fd ["self"] (sp_Holder_do_step C G Ho) := by
  refine F.okX sc_Holder_do_step (fun vs H Q E h => ?_) (fun cdv A outer s H vs Q E hr h => ?_)
  · obtain ⟨_, _, _, rfl, _⟩ := h
    rfl
  · obtain ⟨a, dx, st, rfl, hH, ok, ends⟩ := h
    have hH0 := hH
    obtain ⟨gv, wv, hv, bv, ha, ⟨ga, gdx, gfs, grv, rfl, hga, hgm, hgr, hR⟩, hw, hhe, hb⟩ := hH
    refine ⟨_, (pss_cons (ps_set (i := 1) sc_Holder_do_step.nd rfl (Or.inl rfl) (pe_fc F_first_going (hr.mono (by decide)) pass0 (pa_cons (pe_fld (pe_fld (pv 0) rfl) rfl) (pa_cons (pe_fld (pv 0) rfl) (pa_cons (pe_mc0 (pv 0) F_Holder_held_term (hr.mono (by decide)) (passX rfl rfl rfl rfl)) pa_nil)))))
    (pss_cons (ps_if (pt_cmpR op_isN (pv 1) pe_non (nomark _))
    (pss_one (ps_ret (pe_lst (pa_cons pe_int pa_nil))))
    pss_nil)
    (pss_cons (ps_asg (pv 1) (pg_tup rfl (pgs_cons (pg_name (i := 2) sc_Holder_do_step.nd rfl (Or.inl rfl)) (pgs_cons (pg_name (i := 3) sc_Holder_do_step.nd rfl (Or.inl rfl)) (pgs_cons (pg_name (i := 4) sc_Holder_do_step.nd rfl (Or.inl rfl)) pgs_nil)))))
    (pss_cons (ps_if (pt_cmpR op_gt (pe_callB call_len_seq (by rfl) T.len (by decide +kernel) (pa_cons (pv 4) pa_nil)) (pe_gi T.MOST_TERM) (nomark _))
    (pss_one (ps_raiseRf (k := 1) rfl Rf (hr.mono (by decide)) (takes_of rfl rfl rfl rfl) (by exact (pa_cons (pe_un un_neg pe_int) pa_nil))))
    pss_nil)
    (pss_cons (ps_expr (pe_mc (pv 0) F_Holder_hold (hr.mono (by decide)) pass0 (pa_cons (pe_ix ix_tup (pe_fld (pv 0) rfl) pe_int (fun _ _ => rfl)) (pa_cons (pv 4) pa_nil))))
    (pss_one (ps_ret (pe_lst (pa_cons pe_int (pa_cons (pv 2) (pa_cons (pv 3) pa_nil))))))))))), ?_⟩
    refine ⟨_, rfl, a, Ho, dx, _, _, rfl, ha, Hc.cls, Hc.grammar, rfl, ga, G, gdx, gfs, _, rfl, del_ex _ _ hga, Gc.cls, Gc.rules, hgr, _, rfl, a, Ho, dx, _, _, rfl, ha, Hc.cls, Hc.rewritings, rfl, _, rfl, a, dx, _, rfl, ha, rfl, a, dx, st, rfl, hH0, fun h => ends.rz _ (onHeld_none h), fun h tv hst htv => ?_⟩
    have hk := ok.held h hst
    rw [hst] at hhe
    obtain ⟨ha', hq, rfl, hho, hhq⟩ := hhe
    have hsp : ∀ x, (match Vaglrj.stepOf st.grammar h.non st.rules h.term with
      | none => (st, [1])
      | some (r, i, z) => Vaglrj.made st h z [0, (r : Int), (i : Int)]) = x → Vaglrj.step st .step = x := fun x q => (onHeld_some hst).trans q
    refine ⟨grv, wv, tv, st.grammar, st.rules, h.term, h.non, rfl, hR.mono del_ex, hw.mono del_ex, htv.mono del_ex, ok.g, ok.rules, ok.many, hk.go, hk.len, fun hs H1 e1 => ?_, fun r i t H1 v hs hgt htl e1 hv => ?_⟩
    · have ret := ends.told hH0 (hsp (st, [1]) (by rw [hs]))
      refine ⟨_, rfl, rfl, _, rfl, iteT ?_⟩
      exact ⟨one_line, fun l3 hl3 => ret _ l3 (e1.tr (Ex.new hl3)) (e1.back hl3) upd_same⟩
    · obtain ⟨tp, tq, rfl, htp, htq⟩ := hv
      refine ⟨_, rfl, rfl, _, rfl, iteF ?_⟩
      have ha1 := e1 _ _ ha
      have hho1 := e1 _ _ (del_ex _ _ hho)
      refine ⟨_, rfl, tp, _, rfl, SqT.of htp, rfl, _, _, rfl, _, _, rfl, _, _, rfl, rfl, ?_⟩
      refine ⟨_, rfl, tq, _, rfl, .inl (SqL.of htq), _, _, rfl, rfl, _, rfl, ?_⟩
      show if decide ((400 : Int) < ((t.map vN).length : Int)) = true then _ else _
      rw [List.length_map]
      by_cases h4 : 400 < t.length
      · rw [decide_eq_true (by omega)]
        refine iteT ?_
        have q := hsp (st, [-12]) (by rw [hs]; exact made_great h4)
        exact ⟨_, rfl, _, rfl, fun d hd => ((ends.rz _ q).mono e1).go d hd⟩
      · rw [decide_eq_false (by omega)]
        refine iteF ?_
        have q := hsp (Vaglrj.hold st { h with term := t }, [0, (r : Int), (i : Int)]) (by rw [hs]; exact made_fit h4)
        have md := ends.md
        rw [q] at md
        refine ⟨_, rfl, a, dx, _, rfl, ha1, rfl, _, rfl, a, Ho, dx, _, _, rfl, ha1, Hc.cls, Hc.held, rfl, ha', _, _, _, rfl, rfl, SqT.of hho1, atI_nat (j := 0) rfl, _, rfl, a, dx, .ref tq, st, { h with term := t }, rfl, hH0.mono e1, natsV_ins ha1 ⟨tq, rfl, htq⟩, ok.pmany, fun H2 e2 hH2 => ?_⟩
        obtain ⟨_, _, _, _, ha2, _⟩ := id hH2
        refine ⟨_, rfl, _, rfl, three_line, fun l3 hl3 => ?_⟩
        exact md _ l3 (((del_mono e1).tr e2).tr (del_mono (Ex.new hl3))) (hH2.mono (Ex.new hl3)) (fresh_del ((del_mono e1).tr e2) ha2 hl3) upd_same
end
end TW
set_option Elab.async false
set_option linter.all false
set_option maxRecDepth 100000
set_option maxHeartbeats 4000000
namespace TW
open PySem PySem.Spec PyProof.Rows L2
open Vaglrc (Sym Rule Grammar Node)
open Vaglrj (State Held)
open TR (StOk kindsT Go NoHole GOk trues)
section
variable {P : Program} {w : World} {K : PySem.W.Frag} {mg : Str → Option Value} {base : Heap} {C fI G Ho L : Addr}
def sp_Holder_do_at (C G Ho : Addr) : Sp := fun vs H Q E => ∃ (a dx : Addr) (s : State) (r i : Int), vs = [.ref a, .int r, .int i] ∧ HoldV G Ho H a dx s ∧ StOk s ∧ EndsC G Ho C H Q E a dx s (Vaglrj.step s (.at_ r i))
abbrev s_Holder_do_at : Stmt := inClass (topS 64) 16
/-- 0 self, 1 r, 2 i, 3 laid, 4 rewriting, 5 holes, 6 term -/
theorem sc_Holder_do_at : FnScope ["self", "r", "i", "laid", "rewriting", "holes", "term"] ["self", "r", "i"] (defScope s_Holder_do_at) := ⟨rfl, rfl, rfl, by decide +kernel, rfl, by decide +kernel, by decide +kernel⟩
theorem ok_Holder_do_at {f : Addr} {fd : FuncData} (F : Fun K "do_at" "Holder.do_at" s_Holder_do_at f fd) (T : Glob mg) (Hc : HCls K Ho) (Rf : PySem.RfX.RfTxt K mg C fI) (F_replaced : FnC P w K mg base CX0 3 "replaced" ["laid", "rewriting", "at", "holes"] (sp_replaced L)) (F_Holder_holes_of : MthC P w K mg base (L2.CX P w) 4 Ho "holes_of" ["self", "laid", "rewriting", "i"] (sp_Holder_holes_of C G Ho L)) (F_Holder_held_laid : MthC P w K mg base (L2.CX P w) 4 Ho "held_laid" ["self"] (sp_Holder_held_laid C G Ho L))
    (F_Holder_rewriting : MthC P w K mg base (L2.CX P w) 2 Ho "rewriting" ["self", "r"] (sp_Holder_rewriting C G Ho)) (F_Holder_hold : MthC P w K mg base CX0 1 Ho "hold" ["self", "nonterminal", "term"] (sp_Holder_hold G Ho)) : FnOk P w K mg base (L2.CX P w) 5 f fd ["self", "r", "i"] (sp_Holder_do_at C G Ho) := by
  refine F.okX sc_Holder_do_at (fun vs H Q E h => ?_) (fun cdv A outer s H vs Q E hr h => ?_)
  · obtain ⟨_, _, _, _, _, rfl, _⟩ := h
    rfl
  · obtain ⟨a, dx, st, r, i, rfl, hH, ok, ends⟩ := h
    have hH0 := hH
    obtain ⟨gv, wv, hv, bv, ha, hg, hw, hhe, hb⟩ := hH
    refine ⟨_, (pss_cons (ps_set (i := 3) sc_Holder_do_at.nd rfl (Or.inl rfl) (pe_mc0 (pv 0) F_Holder_held_laid (hr.mono (by decide)) (passX rfl rfl rfl rfl)))
    (pss_cons (ps_set (i := 4) sc_Holder_do_at.nd rfl (Or.inl rfl) (pe_mc (pv 0) F_Holder_rewriting (hr.mono (by decide)) (passX rfl rfl rfl rfl) (pa_cons (pv 1) pa_nil)))
    (pss_cons (ps_set (i := 5) sc_Holder_do_at.nd rfl (Or.inl rfl) (pe_mc (pv 0) F_Holder_holes_of (hr.mono (by decide)) (passX rfl rfl rfl rfl) (pa_cons (pv 3) (pa_cons (pv 4) (pa_cons (pv 2) pa_nil)))))
    (pss_cons (ps_if (pt_cmpR op_isN (pv 5) pe_non (nomark _))
    (pss_one (ps_raiseRf (k := 1) rfl Rf (hr.mono (by decide)) (takes_of rfl rfl rfl rfl) (by exact (pa_cons (pe_un un_neg pe_int) pa_nil))))
    pss_nil)
    (pss_cons (ps_set (i := 6) sc_Holder_do_at.nd rfl (Or.inl rfl) (pe_fc F_replaced (hr.mono (by decide)) pass0 (pa_cons (pv 3) (pa_cons (pv 4) (pa_cons (pv 2) (pa_cons (pv 5) pa_nil))))))
    (pss_cons (ps_if (pt_cmpR op_gt (pe_callB call_len_seq (by rfl) T.len (by decide +kernel) (pa_cons (pv 6) pa_nil)) (pe_gi T.MOST_TERM) (nomark _))
    (pss_one (ps_raiseRf (k := 1) rfl Rf (hr.mono (by decide)) (takes_of rfl rfl rfl rfl) (by exact (pa_cons (pe_un un_neg pe_int) pa_nil))))
    pss_nil)
    (pss_cons (ps_expr (pe_mc (pv 0) F_Holder_hold (hr.mono (by decide)) pass0 (pa_cons (pe_ix ix_tup (pe_fld (pv 0) rfl) pe_int (fun _ _ => rfl)) (pa_cons (pv 6) pa_nil))))
    (pss_one (ps_ret (pe_lst (pa_cons pe_int (pa_cons (pe_callB call_len_seq (by rfl) T.len (by decide +kernel) (pa_cons (pv 6) pa_nil)) pa_nil)))))))))))), ?_⟩
    refine ⟨_, rfl, a, dx, _, rfl, ha, rfl, a, dx, st, rfl, hH0, ok, fun h => ends.rz (-9) (onHeld_none h), fun h v H1 hst e1 hL => ?_⟩
    have hk := ok.held h hst
    have ha1 := e1 _ _ ha
    refine ⟨_, rfl, a, dx, _, rfl, ha1, rfl, _, rfl, a, dx, st, r, rfl, hH0.mono e1, fun h2 => (ends.rz (-8) ((onHeld_some hst).trans (onRule_bad h2))).mono e1, fun z zv h0 hz hzv => ?_⟩
    have hzok := ok.rules z (List.mem_of_getElem? hz)
    have hzv := hzv.mono del_ex
    have hnh := nodes_has ok.g hk.go (i := i.toNat)
    have hsp : ∀ x, (if i < 0 then (st, [-17])
      else if !(Vaglrc.has i.toNat (Vaglrj.nodesOf st.grammar h.non h.term)) then (st, [-17])
      else match Vaglrj.rewriteAt st.grammar z h.term i.toNat with
        | none => (st, [-17])
        | some z' => Vaglrj.made st h z' [0, (z'.length : Int)]) = x → Vaglrj.step st (.at_ r i) = x := fun x q => (onHeld_some hst).trans ((onRule_some h0 hz).trans q)
    refine ⟨_, rfl, a, dx, _, rfl, ha1, rfl, _, rfl, _, rfl, _, rfl, a, dx, st, v, zv, h, z, i, rfl, hH0.mono e1, ok, hst, hL, hzv, hzok, fun hn => (ends.rz (-17) (hsp _ ?_)).mono e1, fun hi0 hkb hm H2 e2 => ?_, fun b rr H2 bv2 hi0 hkb hm e2 hM => ?_⟩
    · by_cases hi0 : i < 0
      · rw [if_pos hi0]
      · rw [if_neg hi0, if_pos (by
          rw [Bool.not_eq_true']
          exact Bool.not_eq_true _ ▸ fun q => hn ⟨by omega, hnh.mp q⟩)]
    · have q := hsp (st, [-17]) (by rw [if_neg (by omega), hnh.mpr hkb, TR.rewriteAt_none hm]; rfl)
      refine ⟨_, rfl, rfl, _, rfl, iteT ?_⟩
      exact ⟨_, rfl, _, rfl, fun d hd => ((ends.rz _ q).mono (e1.tr e2)).go d hd⟩
    · have hvn : bv2 ≠ .non := by obtain ⟨⟨p, _, rfl, _⟩, _⟩ := hM; exact fun e => by cases e
      refine ⟨_, rfl, rfl, _, rfl, ?_⟩
      rw [decide_eq_false hvn]
      refine iteF ?_
      refine ⟨_, rfl, _, rfl, _, rfl, _, rfl, v, zv, bv2, st.grammar, h.term, h.non, i.toNat, z, b, rr, ?_, hL.mono e2, hzv.mono e2, ok.g, hk.go, hk.len, hzok, hkb, hm, hM, fun t H3 tl ht hgt htl e3 htn htv => ?_⟩
      · show [v, zv, V.int i, bv2] = [v, zv, vN i.toNat, bv2]
        unfold vN; rw [Int.toNat_of_nonneg hi0]
      have e13 := (e1.tr e2).tr e3
      have ha3 := e13 _ _ ha
      have hmade := hsp (Vaglrj.made st h t [0, (t.length : Int)]) (by rw [if_neg (show ¬ i < 0 by omega), hnh.mpr hkb, ht]; rfl)
      refine ⟨_, rfl, tl, _, rfl, .inl (SqL.of htv), _, _, rfl, rfl, _, rfl, ?_⟩
      show if decide ((400 : Int) < ((t.map vN).length : Int)) = true then _ else _
      rw [List.length_map]
      by_cases h4 : 400 < t.length
      · rw [decide_eq_true (by omega)]
        refine iteT ?_
        exact ⟨_, rfl, _, rfl, fun d hd => ((ends.rz _ (hmade.trans (made_great h4))).mono e13).go d hd⟩
      · rw [decide_eq_false (by omega)]
        refine iteF ?_
        have md := ends.md
        rw [hmade, made_fit h4] at md
        rw [hst] at hhe
        obtain ⟨ha', hq, rfl, hho, hhq⟩ := hhe
        refine ⟨_, rfl, a, dx, _, rfl, ha3, rfl, _, rfl, a, Ho, dx, _, _, rfl, ha3, Hc.cls, Hc.held, rfl, ha', _, _, _, rfl, rfl, SqT.of (e13 _ _ (del_ex _ _ hho)), atI_nat (j := 0) rfl, _, rfl, a, dx, .ref tl, st, { h with term := t }, rfl, hH0.mono e13, natsV_ins ha3 ⟨tl, rfl, htv⟩, ok.pmany, fun H4 e4 hH4 => ?_⟩
        obtain ⟨_, _, _, _, ha4, _⟩ := id hH4
        have ntl : tl ≠ a := fun q => by rw [q, ha3] at htv; cases htv
        have htv4 : H4 tl = some (.lst (t.map vN)) := del_ex _ _ (e4 _ _ (by rw [del_ne ntl]; exact htv))
        refine ⟨_, rfl, tl, _, rfl, .inl (SqL.of htv4), two_line, fun l3 hl3 => ?_⟩
        refine md _ l3 (((del_mono e13).tr e4).tr (del_mono (Ex.new hl3))) (hH4.mono (Ex.new hl3)) (fresh_del ((del_mono e13).tr e4) ha4 hl3) ?_
        rw [upd_same, List.length_map]; rfl
end
end TW
set_option Elab.async false
set_option linter.all false
set_option maxRecDepth 100000
set_option maxHeartbeats 4000000
namespace TW
open PySem PySem.Spec PyProof.Rows L2
open Vaglrc (Sym Rule Grammar Node)
open Vaglrj (State Held)
open TR (StOk kindsT Go NoHole GOk trues)
section
variable {P : Program} {w : World} {K : PySem.W.Frag} {mg : Str → Option Value} {base : Heap} {C fI G Ho L : Addr}
theorem run_bad {s : State} {h : Held} {n : Int} (hst : s.held = some h) : (¬ (0 ≤ n ∧ n ≤ 100) → Vaglrj.step s (.run n) = (s, [-6])) ∧
    (0 ≤ n ∧ n ≤ 100 → ∀ r, Vaglrj.runOf s.grammar h.non s.rules n.toNat 0 h.term = r → Vaglrj.step s (.run n) = ((if r.2.1 == 0 then s else Vaglrj.hold s { h with term := r.2.2 }), [0, (r.1 : Int), (r.2.1 : Int)])) := by
  have e : Vaglrj.step s (.run n) = (if n < 0 then (s, [-6]) else if (100 : Int) < n then (s, [-6]) else
    let r := Vaglrj.runOf s.grammar h.non s.rules n.toNat 0 h.term
    ((if r.2.1 == 0 then s else Vaglrj.hold s { h with term := r.2.2 }), [0, (r.1 : Int), (r.2.1 : Int)])) := onHeld_some hst
  rw [e]
  refine ⟨fun q => ?_, fun q r hr => ?_⟩
  · by_cases h1 : n < 0
    · rw [if_pos h1]
    · rw [if_neg h1, if_pos (by omega)]
  · rw [if_neg (by omega), if_neg (by omega), hr]
def sp_Holder_do_run (C G Ho : Addr) : Sp := fun vs H Q E => ∃ (a dx : Addr) (s : State) (n : Int), vs = [.ref a, .int n] ∧ HoldV G Ho H a dx s ∧ StOk s ∧ EndsC G Ho C H Q E a dx s (Vaglrj.step s (.run n))
abbrev s_Holder_do_run : Stmt := inClass (topS 64) 17
/-- 0 self, 1 n, 2 first, 3 how, 4 many, 5 term -/
theorem sc_Holder_do_run : FnScope ["self", "n", "first", "how", "many", "term"] ["self", "n"] (defScope s_Holder_do_run) := ⟨rfl, rfl, rfl, by decide +kernel, rfl, by decide +kernel, by decide +kernel⟩
theorem ok_Holder_do_run {f : Addr} {fd : FuncData} (F : Fun K "do_run" "Holder.do_run" s_Holder_do_run f fd) (T : Glob mg) (Hc : HCls K Ho) (Gc : GCls K G) (Rf : PySem.RfX.RfTxt K mg C fI) (F_run_of : FnC P w K mg base CX0 5 "run_of" ["rules", "rewritings", "numbers", "most"] sp_run_of) (F_Holder_held_term : MthC P w K mg base (L2.CX P w) 2 Ho "held_term" ["self"] (sp_Holder_held_term C G Ho))
    (F_Holder_hold : MthC P w K mg base CX0 1 Ho "hold" ["self", "nonterminal", "term"] (sp_Holder_hold G Ho)) : FnOk P w K mg base (L2.CX P w) 6 f fd ["self", "n"] (sp_Holder_do_run C G Ho) := by
  refine F.okX sc_Holder_do_run (fun vs H Q E h => ?_) (fun cdv A outer s H vs Q E hr h => ?_)
  · obtain ⟨_, _, _, _, rfl, _⟩ := h
    rfl
  · obtain ⟨a, dx, st, n, rfl, hH, ok, ends⟩ := h
    have hH0 := hH
    obtain ⟨gv, wv, hv, bv, ha, ⟨ga, gdx, gfs, grv, rfl, hga, hgm, hgr, hR⟩, hw, hhe, hb⟩ := hH
    refine ⟨_, (pss_cons (ps_set (i := 2) sc_Holder_do_run.nd rfl (Or.inl rfl) (pe_mc0 (pv 0) F_Holder_held_term (hr.mono (by decide)) (passX rfl rfl rfl rfl)))
    (pss_cons (ps_if (pt_not (pt_chain op_le op_le pe_int (pv 1) (pe_gi T.MOST_STEPS)))
    (pss_one (ps_raiseRf (k := 1) rfl Rf (hr.mono (by decide)) (takes_of rfl rfl rfl rfl) (by exact (pa_cons (pe_un un_neg pe_int) pa_nil))))
    pss_nil)
    (pss_cons (ps_asg (pe_fc F_run_of (hr.mono (by decide)) pass0 (pa_cons (pe_fld (pe_fld (pv 0) rfl) rfl) (pa_cons (pe_fld (pv 0) rfl) (pa_cons (pv 2) (pa_cons (pv 1) pa_nil))))) (pg_tup rfl (pgs_cons (pg_name (i := 3) sc_Holder_do_run.nd rfl (Or.inl rfl)) (pgs_cons (pg_name (i := 4) sc_Holder_do_run.nd rfl (Or.inl rfl)) (pgs_cons (pg_name (i := 5) sc_Holder_do_run.nd rfl (Or.inl rfl)) pgs_nil)))))
    (pss_cons (ps_if (pt_cmpR op_gt (pv 4) pe_int (nomark _))
    (pss_one (ps_expr (pe_mc (pv 0) F_Holder_hold (hr.mono (by decide)) pass0 (pa_cons (pe_ix ix_tup (pe_fld (pv 0) rfl) pe_int (fun _ _ => rfl)) (pa_cons (pv 5) pa_nil)))))
    pss_nil)
    (pss_one (ps_ret (pe_lst (pa_cons pe_int (pa_cons (pv 3) (pa_cons (pv 4) pa_nil)))))))))), ?_⟩
    refine ⟨_, rfl, a, dx, _, rfl, ha, rfl, a, dx, st, rfl, hH0, fun h => ends.rz (-9) (onHeld_none h), fun h tv hst htv => ?_⟩
    have hk := ok.held h hst
    rw [hst] at hhe
    obtain ⟨ha', hq, rfl, hho, hhq⟩ := hhe
    obtain ⟨hbad, hgood⟩ := run_bad (n := n) hst
    refine ⟨_, rfl, _, _, rfl, rfl, _, rfl, ?_⟩
    show if decide ((0 : Int) ≤ n) = true then _ else _
    by_cases h1 : 0 ≤ n
    · rw [decide_eq_true h1]
      refine iteT ?_
      refine ⟨_, _, rfl, rfl, _, rfl, ?_⟩
      show if (!decide (n ≤ (100 : Int))) = true then _ else _
      by_cases h2 : n ≤ 100
      · rw [decide_eq_true h2]
        refine iteF ?_
        have hsp := hgood ⟨h1, h2⟩
        refine ⟨_, rfl, a, Ho, dx, _, _, rfl, ha, Hc.cls, Hc.grammar, rfl, ga, G, gdx, gfs, _, rfl, del_ex _ _ hga, Gc.cls, Gc.rules, hgr, _, rfl, a, Ho, dx, _, _, rfl, ha, Hc.cls, Hc.rewritings, rfl, _, rfl, _, rfl, grv, wv, tv, st.grammar, st.rules, h.term, h.non, n.toNat, ?_, hR.mono del_ex, hw.mono del_ex, htv.mono del_ex, ok.g, ok.rules, ok.many, hk.go, hk.len, by omega, fun H1 v r hrun hgo2 hl2 e1 hv => ?_⟩
        · show [grv, wv, tv, V.int n] = [grv, wv, tv, vN n.toNat]
          unfold vN; rw [Int.toNat_of_nonneg h1]
        obtain ⟨how, many, t⟩ := r
        obtain ⟨tp, tq, rfl, htp, htq⟩ := hv
        have hsp2 := hsp _ hrun
        have md := ends.md
        rw [hsp2] at md
        dsimp only at md hgo2 hl2 htq
        have ha1 := e1 _ _ ha
        refine ⟨tp, _, rfl, SqT.of htp, rfl, _, _, rfl, _, _, rfl, _, _, rfl, rfl, ?_⟩
        refine ⟨_, rfl, _, _, rfl, rfl, _, rfl, ?_⟩
        show if decide ((0 : Int) < (many : Int)) = true then _ else _
        cases many with
        | zero =>
          refine iteF ?_
          refine ⟨_, rfl, _, rfl, three_line, fun l3 hl3 => ?_⟩
          exact md _ l3 (del_mono (e1.tr (Ex.new hl3))) (hH0.mono (e1.tr (Ex.new hl3))) (e1.back hl3) upd_same
        | succ m =>
          rw [decide_eq_true (by omega)]
          refine iteT ?_
          refine ⟨_, rfl, a, dx, _, rfl, ha1, rfl, _, rfl, a, Ho, dx, _, _, rfl, ha1, Hc.cls, Hc.held, rfl, ha', _, _, _, rfl, rfl, SqT.of (e1 _ _ (del_ex _ _ hho)), atI_nat (j := 0) rfl, _, rfl, a, dx, tq, st, { h with term := t }, rfl, hH0.mono e1, natsV_ins ha1 htq, ok.pmany, fun H2 e2 hH2 => ?_⟩
          obtain ⟨_, _, _, _, ha2, _⟩ := id hH2
          refine ⟨_, rfl, _, rfl, three_line, fun l3 hl3 => ?_⟩
          exact md _ l3 (((del_mono e1).tr e2).tr (del_mono (Ex.new hl3))) (hH2.mono (Ex.new hl3)) (fresh_del ((del_mono e1).tr e2) ha2 hl3) upd_same
      · rw [decide_eq_false h2]
        refine iteT ?_
        exact ⟨_, rfl, _, rfl, fun d hd => (ends.rz (-6) (hbad (by omega))).go d hd⟩
    · rw [decide_eq_false h1]
      refine iteF ?_
      refine ⟨_, rfl, iteT ?_⟩
      exact ⟨_, rfl, _, rfl, fun d hd => (ends.rz (-6) (hbad (by omega))).go d hd⟩
end
end TW
set_option Elab.async false
set_option linter.all false
set_option maxRecDepth 100000
set_option maxHeartbeats 4000000
namespace TW
open PySem PySem.Spec PyProof.Rows L2
open Vaglrc (Sym Rule Grammar Node)
open Vaglrj (State Held)
open TR (StOk kindsT Go NoHole GOk trues POk hh tt holeNo)
section
variable {X : Cx}
theorem pe_fcS {CX : CXT} {k : Nat} {x : Str} {ps : List Str} {sp : Sp} {E : L2.St → XK} {p pos : Pos} {e : Expr} {es : List Expr} {t : TA} (C : FnC X.prog X.w X.K X.mg X.base CX k x ps sp) (hr : Room k X.A) (hx : ∀ σ, PassesAt CX X σ (E σ)) (ha : PA X (e :: es) t) (hg : Gl X x := by rfl)
    (hdb : (x == ("__debug__" : Str)) = false := by decide) (hst : starEach (e :: es) X.env = (false, eval e X.env) :: starEach es X.env := by rfl) (hpl : (backTo pos (starEach es X.env)).any (·.1) = false := by rfl) :
    PE X (.Call (.Name x p) (e :: es) [] pos) (tCallS sp E t) := by
  obtain ⟨f, fd, hm, hk, hb, F⟩ := C.ex
  exact pe_callS F hr hg hm hk hb hx ha hdb hst hpl
end
def saysIt (g : Grammar) (a : Nat) (x : List Nat) (y : List Nat) : Bool := match Vaglrj.saidBy g a x with
  | .term z => z == y
  | _ => false
section
variable {P : Program} {w : World} {K : PySem.W.Frag} {mg : Str → Option Value} {base : Heap} {C fI G Ho L : Addr}
def sp_says (G : Addr) : Sp := fun vs H Q _ => ∃ (gv sg tv : V) (g : Grammar) (x y : List Nat) (a : Nat), vs = [gv, vN a, sg, tv] ∧ GramV G H gv g ∧ GOk g ∧ NatsV H sg x ∧ (∀ c ∈ x, c < 256) ∧ x.length ≤ 24 ∧ a < g.nons ∧ NatsV H tv y ∧ ∀ H', Ex H H' → Q (.bl (saysIt g a x y)) H'
abbrev s_says : Stmt := topS 63
/-- 0 grammar, 1 nonterminal, 2 signs, 3 term, 4 found -/
theorem sc_says : FnScope ["grammar", "nonterminal", "signs", "term", "found"] ["grammar", "nonterminal", "signs", "term"] (defScope s_says) := ⟨rfl, rfl, rfl, by decide +kernel, rfl, by decide +kernel, by decide +kernel⟩
theorem ok_says {f : Addr} {fd : FuncData} (F : Fun K "says" "says" s_says f fd) (T : Glob mg) (Gc : GCls K G) (Rf : PySem.RfX.RfTxt K mg C fI) (F_said : FnC P w K mg base (L2.CX P w) 6 "said" ["many", "rules", "signs", "nonterminal"] (sp_said C)) : FnOk P w K mg base CX0 7 f fd ["grammar", "nonterminal", "signs", "term"] (sp_says G) := by
  refine F.ok sc_says (fun vs H Q E h => ?_) (fun cdv A outer s H vs Q E hr h => ?_)
  · obtain ⟨_, _, _, _, _, _, _, rfl, _⟩ := h
    rfl
  · obtain ⟨gv, sg, tv, g, x, y, a, rfl, ⟨ga, gdx, gfs, grv, rfl, hga, hgm, hgr, hR⟩, ok, hx, hx256, hx24, ha, hy, ret⟩ := h
    refine ⟨_, (pss_cons (ps_try_only (c := .ref C) (tb := fun W => tAsg (tCallS (sp_said C) (WE W) (tCons (tFld K (tVar 0) "many") (tCons (tFld K (tVar 0) "rules") (tCons (tVar 2) (tCons (tVar 1) tNil))))) (gName 4)) (ts := fun _ _ _ => tRet (tC (.bl false))) (Wout := fun _ _ _ _ => False) rfl rfl ⟨rfl, by decide, .inl Rf.gC⟩ takes0
        (fun W pn xe tk _ => pss_one (ps_set (i := 4) sc_says.nd rfl (Or.inl rfl) (by exact (pe_fcS F_said (hr.mono (by decide)) (fun σ => passAt tk σ) (by exact (pa_cons (pe_fld (pv 0) rfl) (pa_cons (pe_fld (pv 0) rfl) (pa_cons (pv 2) (pa_cons (pv 1) pa_nil)))))))))
        (fun a oe cls d pn hz hf => pss_one (ps_ret pe_bl)))
      (pss_one (ps_ret (pe_cmpR (op_eqD hr.units) (pv 4) (pv 3) (nomark _))))), ?_⟩
    have px : POk g x := TR.pok_bytes hx256
    refine ⟨_, rfl, ga, G, gdx, gfs, _, rfl, hga, Gc.cls, Gc.many, hgm, _, rfl, ga, G, gdx, gfs, _, rfl, hga, Gc.cls, Gc.rules, hgr, _, rfl, _, rfl, ?_⟩
    have key : ∀ (E : XK) (Q' : VK), (∀ n, saysIt g a x y = false → Rz E C H n) → (∀ z H' l, Vaglrj.saidBy g a x = .term z → Ex H H' → H' l = some (.lst (z.map vN)) → Q' (.ref l) H') → sp_said C [vN g.nons, grv, sg, vN a] H Q' E := fun E Q' h1 h2 => by
      have hs : SaidTo E C H Q' (Vaglrj.saidBy g a x) := by
        cases e : Vaglrj.saidBy g a x with
        | uncovered => exact h1 _ (by unfold saysIt; rw [e])
        | endless => exact h1 _ (by unfold saysIt; rw [e])
        | great => exact h1 _ (by unfold saysIt; rw [e])
        | term z => exact fun H' l e1 _ hl => h2 z H' l e e1 hl
      obtain ⟨q1, q2, q3, q4⟩ := said_of ok px hs
      exact ⟨grv, sg, hh g x, x, withH g x, holeNo g x, a, rfl, by rw [withH_text hx256]; exact hR, hx, withH_ok ok px hx24, withH_hole g _, hx24, ok.nons, ha, q1, q2, q3, q4⟩
    simp only [tNil]
    refine key _ _ (fun n hf H' d e1 hd => ?_) (fun z H' l hz e1 hl => ?_)
    · refine ⟨true, Rf.te, fun _ a0 _ => ?_, fun q => Bool.noConfusion q⟩
      have := ret H' e1
      rw [hf] at this
      exact this
    · obtain ⟨yl, rfl, hyl⟩ := hy
      refine ⟨_, rfl, _, rfl, _, _, dp_nats hl, dp_nats (e1 _ _ hyl), PySem.W.shaped_ints _, PySem.W.shaped_ints _, ?_⟩
      rw [eqv_natl]
      have := ret H' e1
      unfold saysIt at this
      rw [hz] at this
      have e : (z == y) = decide (z = y) := by
        by_cases h : z = y
        · subst h; simp
        · simp [h]
      simp only [e] at this
      exact this
end
end TW
set_option Elab.async false
set_option linter.all false
set_option maxRecDepth 100000
set_option maxHeartbeats 4000000
namespace TW
open PySem PySem.Spec PyProof.Rows L2
open Vaglrc (Sym Rule Grammar Node)
open Vaglrj (State Held)
open TR (StOk kindsT Go NoHole GOk trues POk hh tt ROk)
theorem bytes_small {g : Grammar} (ok : GOk g) {l m : List Sym} {y : List Nat} (h : Go g NoHole l y m) : ROk l → m = [] → ∀ c ∈ TR.bytesOf g l y, c < 256 := by
  induction h with
  | nil => intro _ e c hc; subst e; simp [TR.bytesOf] at hc
  | @rng lo hi b l l' r h1 h2 _ ih =>
    intro hr e c hc
    have hc' : c ∈ b :: TR.bytesOf g l r := hc
    rcases List.mem_cons.mp hc' with q | q
    · have := hr lo hi List.mem_cons_self; omega
    · exact ih (fun lo hi hm => hr lo hi (List.mem_cons_of_mem _ hm)) e c q
  | hole h1 _ _ => exact h1.elim
  | @node c a q l l' r h1 h2 _ ih =>
    intro hr e x hx
    unfold TR.bytesOf at hx
    rw [TR.kinds_node h1] at hx
    have hx' : x ∈ TR.bytesOf g (q.rhs ++ l) r := hx
    exact ih (TR.rok_rule ok h1 fun lo hi hm => hr lo hi (List.mem_cons_of_mem _ hm)) e x hx'
theorem go_nons {g : Grammar} (ok : GOk g) {a : Nat} {y : List Nat} (h : Go g NoHole [.non a] y []) : a < g.nons := by
  cases y with
  | nil => cases h
  | cons c r =>
    rcases h.inv_non with ⟨_, _, hf, _⟩ | ⟨q, h1, h2, _⟩
    · exact hf.elim
    · rw [← h2]; exact ok.lhs q (List.mem_of_getElem? h1)
section
variable {P : Program} {w : World} {K : PySem.W.Frag} {mg : Str → Option Value} {base : Heap} {C fI G Ho L : Addr}
def sp_Holder_told_faithful (C G Ho : Addr) : Sp := fun vs H Q E => ∃ (a dx : Addr) (s : State), vs = [.ref a] ∧ HoldV G Ho H a dx s ∧ StOk s ∧ EndsC G Ho C H Q E a dx s (Vaglrj.step s .faithful)
abbrev s_Holder_told_faithful : Stmt := inClass (topS 64) 19
/-- 0 self, 1 signs -/
theorem sc_Holder_told_faithful : FnScope ["self", "signs"] ["self"] (defScope s_Holder_told_faithful) := ⟨rfl, rfl, rfl, by decide +kernel, rfl, by decide +kernel, by decide +kernel⟩
theorem ok_Holder_told_faithful {f : Addr} {fd : FuncData} (F : Fun K "told_faithful" "Holder.told_faithful" s_Holder_told_faithful f fd) (T : Glob mg) (Hc : HCls K Ho) (Rf : PySem.RfX.RfTxt K mg C fI) (F_bytes_of : FnC P w K mg base CX0 1 "bytes_of" ["laid"] (sp_bytes_of L)) (F_says : FnC P w K mg base CX0 7 "says" ["grammar", "nonterminal", "signs", "term"] (sp_says G)) (F_Holder_held_laid : MthC P w K mg base (L2.CX P w) 4 Ho "held_laid" ["self"] (sp_Holder_held_laid C G Ho L)) : FnOk P w K mg base (L2.CX P w) 8 f fd ["self"] (sp_Holder_told_faithful C G Ho) := by
  refine F.okX sc_Holder_told_faithful (fun vs H Q E h => ?_) (fun cdv A outer s H vs Q E hr h => ?_)
  · obtain ⟨_, _, _, rfl, _⟩ := h
    rfl
  · obtain ⟨a, dx, st, rfl, hH, ok, ends⟩ := h
    have hH0 := hH
    obtain ⟨gv, wv, hv, bv, ha, hg, hw, hhe, hb⟩ := hH
    refine ⟨_, (pss_cons (ps_set (i := 1) sc_Holder_told_faithful.nd rfl (Or.inl rfl) (pe_fc F_bytes_of (hr.mono (by decide)) pass0 (pa_cons (pe_mc0 (pv 0) F_Holder_held_laid (hr.mono (by decide)) (passX rfl rfl rfl rfl)) pa_nil)))
    (pss_cons (ps_if (pt_cmpR op_gt (pe_callB call_len_seq (by rfl) T.len (by decide +kernel) (pa_cons (pv 1) pa_nil)) (pe_gi T.MOST_SIGNS) (nomark _))
    (pss_one (ps_raiseRf (k := 1) rfl Rf (hr.mono (by decide)) (takes_of rfl rfl rfl rfl) (by exact (pa_cons (pe_un un_neg pe_int) pa_nil))))
    pss_nil)
    (pss_one (ps_ret (pe_lst (pa_cons pe_int (pa_cons (pe_callTy call_int1 (by rfl) T.int (by decide +kernel) (pa_cons (pe_fc F_says (hr.mono (by decide)) pass0 (pa_cons (pe_fld (pv 0) rfl) (pa_cons (pe_ix ix_tup (pe_fld (pv 0) rfl) pe_int (fun _ _ => rfl)) (pa_cons (pv 1) (pa_cons (pe_ix ix_tup (pe_fld (pv 0) rfl) pe_int (fun _ _ => rfl)) pa_nil))))) pa_nil)) pa_nil))))))), ?_⟩
    refine ⟨_, rfl, a, dx, _, rfl, ha, rfl, a, dx, st, rfl, hH0, ok, fun h => ends.rz (-9) (onHeld_none h), fun h v H1 hst e1 hL => ?_⟩
    have hk := ok.held h hst
    have hyl := TR.yieldOf_eq ok.g hk.go
    have hsp : ∀ x, (if 24 < (Vaglrj.yieldOf st.grammar h.non h.term).length then (st, [-18]) else (st, [0, if Vaglrj.faithful st.grammar h.non h.term then 1 else 0])) = x → Vaglrj.step st .faithful = x := fun x q => (onHeld_some hst).trans q
    rw [hyl] at hsp
    refine ⟨v, st.grammar, h.term, h.non, rfl, hL, hk.go, hk.len, fun H2 bl e2 hbl hb2 => ?_⟩
    have e12 := e1.tr e2
    refine ⟨_, rfl, bl, _, rfl, .inl (SqL.of hb2), _, _, rfl, rfl, _, rfl, ?_⟩
    show if decide ((24 : Int) < (((TR.bytesOf st.grammar [.non h.non] h.term).map vN).length : Int)) = true then _ else _
    rw [List.length_map]
    by_cases h4 : 24 < (TR.bytesOf st.grammar [.non h.non] h.term).length
    · rw [decide_eq_true (by omega)]
      refine iteT ?_
      exact ⟨_, rfl, _, rfl, fun d hd => ((ends.rz _ (hsp _ (if_pos h4))).mono e12).go d hd⟩
    · rw [decide_eq_false (by omega)]
      refine iteF ?_
      have ret := ends.told hH0 (hsp _ (if_neg h4))
      rw [hst] at hhe
      obtain ⟨ha', hq, rfl, hho, hhq⟩ := hhe
      have ha2 := e12 _ _ ha
      have hho2 := e12 _ _ (del_ex _ _ hho)
      refine ⟨_, rfl, a, Ho, dx, _, _, rfl, ha2, Hc.cls, Hc.grammar, rfl, _, rfl, a, Ho, dx, _, _, rfl, ha2, Hc.cls, Hc.held, rfl, ha', _, _, _, rfl, rfl, SqT.of hho2, atI_nat (j := 0) rfl, _, rfl, _, rfl, a, Ho, dx, _, _, rfl, ha2, Hc.cls, Hc.held, rfl, ha', _, _, _, rfl, rfl, SqT.of hho2, atI_nat (j := 1) rfl, gv, .ref bl, hq, st.grammar, _, h.term, h.non, rfl, hg.mono (del_ex.tr e12), ok.g, ⟨bl, rfl, hb2⟩, bytes_small ok.g hk.go (TR.rok_non _) rfl, by omega, go_nons ok.g hk.go, hhq.mono (del_ex.tr e12), fun H3 e3 => .inr ⟨_, rfl, ?_⟩⟩
      refine ⟨two_line, fun l3 hl3 => ?_⟩
      refine ret _ l3 ((e12.tr e3).tr (Ex.new hl3)) ((e12.tr e3).back hl3) ?_
      rw [upd_same]
      have : Vaglrj.faithful st.grammar h.non h.term = saysIt st.grammar h.non (TR.bytesOf st.grammar [.non h.non] h.term) h.term := by
        unfold Vaglrj.faithful saysIt
        rw [hyl]
        cases Vaglrj.saidBy st.grammar h.non (TR.bytesOf st.grammar [.non h.non] h.term) <;> rfl
      rw [this]
      cases saysIt st.grammar h.non (TR.bytesOf st.grammar [.non h.non] h.term) h.term <;> rfl
end
end TW
set_option Elab.async false
set_option linter.all false
set_option maxRecDepth 100000
set_option maxHeartbeats 4000000
namespace TW
open PySem PySem.Spec PyProof.Rows L2
open Vaglrc (Sym Rule Grammar Node)
open Vaglrj (State Held)
open TR (StOk kindsT Go NoHole GOk trues)
theorem intEq (a b : Int) : decide (V.int a = V.int b) = decide (a = b) := by
  by_cases h : a = b
  · subst h; simp
  · rw [decide_eq_false h, decide_eq_false fun e => h (by cases e; rfl)]
abbrev RowsV : Hp → V → List (List Int) → Prop := ListV IntsV
/-- a call of the document, by its place, its numbers and its rows -/
inductive CallI : Int → List Int → List (List Int) → Vaglrj.Call → Prop where
  | load (x : List Int) : CallI 0 [] [x] (.load x)
  | text (a : Int) (x : List Int) : CallI 1 [a] [x] (.text a x)
  | rule (a : Int) (x y : List Int) : CallI 2 [a] [x, y] (.rule a x y)
  | drop : CallI 3 [] [] .drop
  | rules : CallI 4 [] [] .rules
  | term : CallI 5 [] [] .term
  | shown : CallI 6 [] [] .shown
  | places (r : Int) : CallI 7 [r] [] (.places r)
  | binds (r i : Int) : CallI 8 [r, i] [] (.binds r i)
  | step : CallI 9 [] [] .step
  | at_ (r i : Int) : CallI 10 [r, i] [] (.at_ r i)
  | run (n : Int) : CallI 11 [n] [] (.run n)
  | back : CallI 12 [] [] .back
  | faithful : CallI 13 [] [] .faithful
section
variable {P : Program} {w : World} {K : PySem.W.Frag} {mg : Str → Option Value} {base : Heap} {C fI G Ho L : Addr}
def sp_changed (C G Ho : Addr) : Sp := fun vs H Q E => ∃ (o dx : Addr) (s : State) (p : Int) (nv rv : V) (xs : List Int) (rows : List (List Int)) (c : Vaglrj.Call), vs = [.ref o, .int p, nv, rv] ∧ HoldV G Ho H o dx s ∧ StOk s ∧ IntsV H nv xs ∧ RowsV H rv rows ∧ (∀ x ∈ rows, x.length ≤ 2000) ∧ CallI p xs rows c ∧ (p < 4) ∧ EndsC G Ho C H Q E o dx s (Vaglrj.step s c)
abbrev s_changed : Stmt := topS 69
/-- 0 holder, 1 call, 2 numbers, 3 rows -/
theorem sc_changed : FnScope ["holder", "call", "numbers", "rows"] ["holder", "call", "numbers", "rows"] (defScope s_changed) := ⟨rfl, rfl, rfl, by decide +kernel, rfl, by decide +kernel, by decide +kernel⟩
theorem ok_changed {f : Addr} {fd : FuncData} (F : Fun K "changed" "changed" s_changed f fd) (T : Glob mg) (F_Holder_load : MthC P w K mg base (L2.CX P w) 4 Ho "load" ["self", "row"] (sp_Holder_load C G Ho)) (F_Holder_read_text : MthC P w K mg base (L2.CX P w) 8 Ho "read_text" ["self", "a", "signs"] (sp_Holder_read_text C G Ho)) (F_Holder_put_rule : MthC P w K mg base (L2.CX P w) 9 Ho "put_rule" ["self", "a", "left", "right"] (sp_Holder_put_rule C G Ho)) (F_Holder_drop_rule : MthC P w K mg base (L2.CX P w) 3 Ho "drop_rule" ["self"] (sp_Holder_drop_rule C G Ho)) : FnOk P w K mg base (L2.CX P w) 10 f fd ["holder", "call", "numbers", "rows"] (sp_changed C G Ho) := by
  refine F.okX sc_changed (fun vs H Q E h => ?_) (fun cdv A outer s H vs Q E hr h => ?_)
  · obtain ⟨_, _, _, _, _, _, _, _, _, rfl, _⟩ := h
    rfl
  · obtain ⟨o, dx, st, p, nv, rv, xs, rows, c, rfl, hH, ok, hnv, hrv, hrn, hc, hp, ends⟩ := h
    obtain ⟨gv, wv, hv, bv, ha, _⟩ := id hH
    refine ⟨_, (pss_cons (ps_if (pt_cmpR op_eq (pv 1) pe_int (nomark _))
    (pss_one (ps_ret (pe_mc (pv 0) F_Holder_load (hr.mono (by decide)) (passX rfl rfl rfl rfl) (pa_cons (pe_ix ix_list (pv 3) pe_int (fun _ _ => rfl)) pa_nil))))
    pss_nil)
    (pss_cons (ps_if (pt_cmpR op_eq (pv 1) pe_int (nomark _))
    (pss_one (ps_ret (pe_mc (pv 0) F_Holder_read_text (hr.mono (by decide)) (passX rfl rfl rfl rfl) (pa_cons (pe_ix ix_list (pv 2) pe_int (fun _ _ => rfl)) (pa_cons (pe_ix ix_list (pv 3) pe_int (fun _ _ => rfl)) pa_nil)))))
    pss_nil)
    (pss_cons (ps_if (pt_cmpR op_eq (pv 1) pe_int (nomark _))
    (pss_one (ps_ret (pe_mc (pv 0) F_Holder_put_rule (hr.mono (by decide)) (passX rfl rfl rfl rfl) (pa_cons (pe_ix ix_list (pv 2) pe_int (fun _ _ => rfl)) (pa_cons (pe_ix ix_list (pv 3) pe_int (fun _ _ => rfl)) (pa_cons (pe_ix ix_list (pv 3) pe_int (fun _ _ => rfl)) pa_nil))))))
    pss_nil)
    (pss_one (ps_ret (pe_mc0 (pv 0) F_Holder_drop_rule (hr.mono (by decide)) (passX rfl rfl rfl rfl))))))), ?_⟩
    cases hc with
    | load x =>
      refine ⟨_, rfl, rfl, _, rfl, ?_⟩
      show if decide (V.int (0 : Int) = V.int (0 : Int)) = true then _ else _
      rw [intEq, decide_eq_true (by decide)]
      refine iteT ?_
      obtain ⟨rl, vs, rfl, hrl, hrp⟩ := hrv
      cases hrp with
      | cons hx hrp =>
      cases hrp
      exact ⟨_, rfl, o, dx, _, rfl, ha, rfl, _, rfl, rl, _, _, _, rfl, rfl, SqL.of hrl, atI_nat (j := 0) rfl, o, dx, st, _, x, rfl, hH, hx, hrn _ (by simp), ends⟩
    | text a x =>
      refine ⟨_, rfl, rfl, _, rfl, ?_⟩
      show if decide (V.int (1 : Int) = V.int (0 : Int)) = true then _ else _
      rw [intEq, decide_eq_false (by decide)]
      refine iteF ?_
      refine ⟨_, rfl, rfl, _, rfl, ?_⟩
      show if decide (V.int (1 : Int) = V.int (1 : Int)) = true then _ else _
      rw [intEq, decide_eq_true (by decide)]
      refine iteT ?_
      obtain ⟨rl, vs, rfl, hrl, hrp⟩ := hrv
      obtain ⟨nl, rfl, hnl⟩ := hnv
      cases hrp with
      | cons hx hrp =>
      cases hrp
      exact ⟨_, rfl, o, dx, _, rfl, ha, rfl, _, rfl, nl, _, _, _, rfl, rfl, SqL.of hnl, atI_nat (j := 0) rfl, _, rfl, rl, _, _, _, rfl, rfl, SqL.of hrl, atI_nat (j := 0) rfl, o, dx, st, _, a, x, rfl, hH, ok, hx, hrn _ (by simp), ends⟩
    | rule a x y =>
      refine ⟨_, rfl, rfl, _, rfl, ?_⟩
      show if decide (V.int (2 : Int) = V.int (0 : Int)) = true then _ else _
      rw [intEq, decide_eq_false (by decide)]
      refine iteF ?_
      refine ⟨_, rfl, rfl, _, rfl, ?_⟩
      show if decide (V.int (2 : Int) = V.int (1 : Int)) = true then _ else _
      rw [intEq, decide_eq_false (by decide)]
      refine iteF ?_
      refine ⟨_, rfl, rfl, _, rfl, ?_⟩
      show if decide (V.int (2 : Int) = V.int (2 : Int)) = true then _ else _
      rw [intEq, decide_eq_true (by decide)]
      refine iteT ?_
      obtain ⟨rl, vs, rfl, hrl, hrp⟩ := hrv
      obtain ⟨nl, rfl, hnl⟩ := hnv
      cases hrp with
      | cons hx hrp =>
      cases hrp with
      | cons hy hrp =>
      cases hrp
      exact ⟨_, rfl, o, dx, _, rfl, ha, rfl, _, rfl, nl, _, _, _, rfl, rfl, SqL.of hnl, atI_nat (j := 0) rfl, _, rfl, rl, _, _, _, rfl, rfl, SqL.of hrl, atI_nat (j := 0) rfl, _, rfl, rl, _, _, _, rfl, rfl, SqL.of hrl, atI_nat (j := 1) rfl, o, dx, st, _, _, a, x, y, rfl, hH, ok, hx, hy, hrn _ (by simp), hrn _ (by simp), ends⟩
    | drop =>
      refine ⟨_, rfl, rfl, _, rfl, ?_⟩
      show if decide (V.int (3 : Int) = V.int (0 : Int)) = true then _ else _
      rw [intEq, decide_eq_false (by decide)]
      refine iteF ?_
      refine ⟨_, rfl, rfl, _, rfl, ?_⟩
      show if decide (V.int (3 : Int) = V.int (1 : Int)) = true then _ else _
      rw [intEq, decide_eq_false (by decide)]
      refine iteF ?_
      refine ⟨_, rfl, rfl, _, rfl, ?_⟩
      show if decide (V.int (3 : Int) = V.int (2 : Int)) = true then _ else _
      rw [intEq, decide_eq_false (by decide)]
      refine iteF ?_
      refine ⟨_, rfl, o, dx, _, rfl, ha, rfl, o, dx, st, rfl, hH, ok, fun h => ends.rz _ ?_, fun h => ?_⟩
      · show (if st.rules.isEmpty then _ else _) = _
        rw [h]; rfl
      · have md := ends.md
        have e : Vaglrj.step st .drop = ({ st with rules := st.rules.dropLast }, [0, ((st.rules.length - 1 : Nat) : Int)]) := by
          show (if st.rules.isEmpty then _ else _) = _
          rw [if_neg (by rw [List.isEmpty_iff]; exact h)]
        rw [e] at md
        exact md
    | rules =>
      exact absurd hp (by decide)
    | term =>
      exact absurd hp (by decide)
    | shown =>
      exact absurd hp (by decide)
    | places r =>
      exact absurd hp (by decide)
    | binds r i =>
      exact absurd hp (by decide)
    | step =>
      exact absurd hp (by decide)
    | at_ r i =>
      exact absurd hp (by decide)
    | run n =>
      exact absurd hp (by decide)
    | back =>
      exact absurd hp (by decide)
    | faithful =>
      exact absurd hp (by decide)
def sp_looked (C G Ho : Addr) : Sp := fun vs H Q E => ∃ (o dx : Addr) (s : State) (p : Int) (nv : V) (xs : List Int) (rows : List (List Int)) (c : Vaglrj.Call), vs = [.ref o, .int p, nv] ∧ HoldV G Ho H o dx s ∧ StOk s ∧ IntsV H nv xs ∧ CallI p xs rows c ∧ (4 ≤ p ∧ p < 9) ∧ EndsC G Ho C H Q E o dx s (Vaglrj.step s c)
abbrev s_looked : Stmt := topS 70
/-- 0 holder, 1 call, 2 numbers -/
theorem sc_looked : FnScope ["holder", "call", "numbers"] ["holder", "call", "numbers"] (defScope s_looked) := ⟨rfl, rfl, rfl, by decide +kernel, rfl, by decide +kernel, by decide +kernel⟩
theorem ok_looked {f : Addr} {fd : FuncData} (F : Fun K "looked" "looked" s_looked f fd) (T : Glob mg) (F_Holder_told_rules : MthC P w K mg base CX0 1 Ho "told_rules" ["self"] (sp_Holder_told_rules C G Ho)) (F_Holder_told_term : MthC P w K mg base (L2.CX P w) 3 Ho "told_term" ["self"] (sp_Holder_told_term C G Ho)) (F_Holder_told_bytes : MthC P w K mg base (L2.CX P w) 5 Ho "told_bytes" ["self"] (sp_Holder_told_bytes C G Ho)) (F_Holder_told_places : MthC P w K mg base (L2.CX P w) 5 Ho "told_places" ["self", "r"] (sp_Holder_told_places C G Ho)) (F_Holder_told_binds : MthC P w K mg base (L2.CX P w) 5 Ho "told_binds" ["self", "r", "i"] (sp_Holder_told_binds C G Ho)) : FnOk P w K mg base (L2.CX P w) 6 f fd ["holder", "call", "numbers"] (sp_looked C G Ho) := by
  refine F.okX sc_looked (fun vs H Q E h => ?_) (fun cdv A outer s H vs Q E hr h => ?_)
  · obtain ⟨_, _, _, _, _, _, _, _, rfl, _⟩ := h
    rfl
  · obtain ⟨o, dx, st, p, nv, xs, rows, c, rfl, hH, ok, hnv, hc, hp, ends⟩ := h
    obtain ⟨gv, wv, hv, bv, ha, _⟩ := id hH
    refine ⟨_, (pss_cons (ps_if (pt_cmpR op_eq (pv 1) pe_int (nomark _))
    (pss_one (ps_ret (pe_mc0 (pv 0) F_Holder_told_rules (hr.mono (by decide)) pass0)))
    pss_nil)
    (pss_cons (ps_if (pt_cmpR op_eq (pv 1) pe_int (nomark _))
    (pss_one (ps_ret (pe_mc0 (pv 0) F_Holder_told_term (hr.mono (by decide)) (passX rfl rfl rfl rfl))))
    pss_nil)
    (pss_cons (ps_if (pt_cmpR op_eq (pv 1) pe_int (nomark _))
    (pss_one (ps_ret (pe_mc0 (pv 0) F_Holder_told_bytes (hr.mono (by decide)) (passX rfl rfl rfl rfl))))
    pss_nil)
    (pss_cons (ps_if (pt_cmpR op_eq (pv 1) pe_int (nomark _))
    (pss_one (ps_ret (pe_mc (pv 0) F_Holder_told_places (hr.mono (by decide)) (passX rfl rfl rfl rfl) (pa_cons (pe_ix ix_list (pv 2) pe_int (fun _ _ => rfl)) pa_nil))))
    pss_nil)
    (pss_one (ps_ret (pe_mc (pv 0) F_Holder_told_binds (hr.mono (by decide)) (passX rfl rfl rfl rfl) (pa_cons (pe_ix ix_list (pv 2) pe_int (fun _ _ => rfl)) (pa_cons (pe_ix ix_list (pv 2) pe_int (fun _ _ => rfl)) pa_nil))))))))), ?_⟩
    cases hc with
    | load x =>
      exact absurd hp (by decide)
    | text a x =>
      exact absurd hp (by decide)
    | rule a x y =>
      exact absurd hp (by decide)
    | drop =>
      exact absurd hp (by decide)
    | rules =>
      refine ⟨_, rfl, rfl, _, rfl, ?_⟩
      show if decide (V.int (4 : Int) = V.int (4 : Int)) = true then _ else _
      rw [intEq, decide_eq_true (by decide)]
      refine iteT ?_
      exact ⟨_, rfl, o, dx, _, rfl, ha, rfl, o, dx, st, rfl, hH, ok, ends.told hH rfl⟩
    | term =>
      refine ⟨_, rfl, rfl, _, rfl, ?_⟩
      show if decide (V.int (5 : Int) = V.int (4 : Int)) = true then _ else _
      rw [intEq, decide_eq_false (by decide)]
      refine iteF ?_
      refine ⟨_, rfl, rfl, _, rfl, ?_⟩
      show if decide (V.int (5 : Int) = V.int (5 : Int)) = true then _ else _
      rw [intEq, decide_eq_true (by decide)]
      refine iteT ?_
      exact ⟨_, rfl, o, dx, _, rfl, ha, rfl, o, dx, st, rfl, hH, ok, fun h => ends.rz _ (onHeld_none h), fun h hst => ends.told hH (onHeld_some hst)⟩
    | shown =>
      refine ⟨_, rfl, rfl, _, rfl, ?_⟩
      show if decide (V.int (6 : Int) = V.int (4 : Int)) = true then _ else _
      rw [intEq, decide_eq_false (by decide)]
      refine iteF ?_
      refine ⟨_, rfl, rfl, _, rfl, ?_⟩
      show if decide (V.int (6 : Int) = V.int (5 : Int)) = true then _ else _
      rw [intEq, decide_eq_false (by decide)]
      refine iteF ?_
      refine ⟨_, rfl, rfl, _, rfl, ?_⟩
      show if decide (V.int (6 : Int) = V.int (6 : Int)) = true then _ else _
      rw [intEq, decide_eq_true (by decide)]
      refine iteT ?_
      exact ⟨_, rfl, o, dx, _, rfl, ha, rfl, o, dx, st, rfl, hH, ok, fun h => ends.rz _ (onHeld_none h), fun h hst => ends.told hH (onHeld_some hst)⟩
    | places r =>
      refine ⟨_, rfl, rfl, _, rfl, ?_⟩
      show if decide (V.int (7 : Int) = V.int (4 : Int)) = true then _ else _
      rw [intEq, decide_eq_false (by decide)]
      refine iteF ?_
      refine ⟨_, rfl, rfl, _, rfl, ?_⟩
      show if decide (V.int (7 : Int) = V.int (5 : Int)) = true then _ else _
      rw [intEq, decide_eq_false (by decide)]
      refine iteF ?_
      refine ⟨_, rfl, rfl, _, rfl, ?_⟩
      show if decide (V.int (7 : Int) = V.int (6 : Int)) = true then _ else _
      rw [intEq, decide_eq_false (by decide)]
      refine iteF ?_
      refine ⟨_, rfl, rfl, _, rfl, ?_⟩
      show if decide (V.int (7 : Int) = V.int (7 : Int)) = true then _ else _
      rw [intEq, decide_eq_true (by decide)]
      refine iteT ?_
      obtain ⟨nl, rfl, hnl⟩ := hnv
      exact ⟨_, rfl, o, dx, _, rfl, ha, rfl, _, rfl, nl, _, _, _, rfl, rfl, SqL.of hnl, atI_nat (j := 0) rfl, o, dx, st, r, rfl, hH, ok, ends⟩
    | binds r i =>
      refine ⟨_, rfl, rfl, _, rfl, ?_⟩
      show if decide (V.int (8 : Int) = V.int (4 : Int)) = true then _ else _
      rw [intEq, decide_eq_false (by decide)]
      refine iteF ?_
      refine ⟨_, rfl, rfl, _, rfl, ?_⟩
      show if decide (V.int (8 : Int) = V.int (5 : Int)) = true then _ else _
      rw [intEq, decide_eq_false (by decide)]
      refine iteF ?_
      refine ⟨_, rfl, rfl, _, rfl, ?_⟩
      show if decide (V.int (8 : Int) = V.int (6 : Int)) = true then _ else _
      rw [intEq, decide_eq_false (by decide)]
      refine iteF ?_
      refine ⟨_, rfl, rfl, _, rfl, ?_⟩
      show if decide (V.int (8 : Int) = V.int (7 : Int)) = true then _ else _
      rw [intEq, decide_eq_false (by decide)]
      refine iteF ?_
      obtain ⟨nl, rfl, hnl⟩ := hnv
      exact ⟨_, rfl, o, dx, _, rfl, ha, rfl, _, rfl, nl, _, _, _, rfl, rfl, SqL.of hnl, atI_nat (j := 0) rfl, _, rfl, nl, _, _, _, rfl, rfl, SqL.of hnl, atI_nat (j := 1) rfl, o, dx, st, r, i, rfl, hH, ok, ends⟩
    | step =>
      exact absurd hp (by decide)
    | at_ r i =>
      exact absurd hp (by decide)
    | run n =>
      exact absurd hp (by decide)
    | back =>
      exact absurd hp (by decide)
    | faithful =>
      exact absurd hp (by decide)
def sp_stepped (C G Ho : Addr) : Sp := fun vs H Q E => ∃ (o dx : Addr) (s : State) (p : Int) (nv : V) (xs : List Int) (rows : List (List Int)) (c : Vaglrj.Call), vs = [.ref o, .int p, nv] ∧ HoldV G Ho H o dx s ∧ StOk s ∧ IntsV H nv xs ∧ CallI p xs rows c ∧ (9 ≤ p) ∧ EndsC G Ho C H Q E o dx s (Vaglrj.step s c)
abbrev s_stepped : Stmt := topS 71
/-- 0 holder, 1 call, 2 numbers -/
theorem sc_stepped : FnScope ["holder", "call", "numbers"] ["holder", "call", "numbers"] (defScope s_stepped) := ⟨rfl, rfl, rfl, by decide +kernel, rfl, by decide +kernel, by decide +kernel⟩
theorem ok_stepped {f : Addr} {fd : FuncData} (F : Fun K "stepped" "stepped" s_stepped f fd) (T : Glob mg) (F_Holder_do_step : MthC P w K mg base (L2.CX P w) 5 Ho "do_step" ["self"] (sp_Holder_do_step C G Ho)) (F_Holder_do_at : MthC P w K mg base (L2.CX P w) 5 Ho "do_at" ["self", "r", "i"] (sp_Holder_do_at C G Ho)) (F_Holder_do_run : MthC P w K mg base (L2.CX P w) 6 Ho "do_run" ["self", "n"] (sp_Holder_do_run C G Ho)) (F_Holder_go_back : MthC P w K mg base (L2.CX P w) 3 Ho "go_back" ["self"] (sp_Holder_go_back C G Ho)) (F_Holder_told_faithful : MthC P w K mg base (L2.CX P w) 8 Ho "told_faithful" ["self"] (sp_Holder_told_faithful C G Ho)) : FnOk P w K mg base (L2.CX P w) 9 f fd ["holder", "call", "numbers"] (sp_stepped C G Ho) := by
  refine F.okX sc_stepped (fun vs H Q E h => ?_) (fun cdv A outer s H vs Q E hr h => ?_)
  · obtain ⟨_, _, _, _, _, _, _, _, rfl, _⟩ := h
    rfl
  · obtain ⟨o, dx, st, p, nv, xs, rows, c, rfl, hH, ok, hnv, hc, hp, ends⟩ := h
    obtain ⟨gv, wv, hv, bv, ha, _⟩ := id hH
    refine ⟨_, (pss_cons (ps_if (pt_cmpR op_eq (pv 1) pe_int (nomark _))
    (pss_one (ps_ret (pe_mc0 (pv 0) F_Holder_do_step (hr.mono (by decide)) (passX rfl rfl rfl rfl))))
    pss_nil)
    (pss_cons (ps_if (pt_cmpR op_eq (pv 1) pe_int (nomark _))
    (pss_one (ps_ret (pe_mc (pv 0) F_Holder_do_at (hr.mono (by decide)) (passX rfl rfl rfl rfl) (pa_cons (pe_ix ix_list (pv 2) pe_int (fun _ _ => rfl)) (pa_cons (pe_ix ix_list (pv 2) pe_int (fun _ _ => rfl)) pa_nil)))))
    pss_nil)
    (pss_cons (ps_if (pt_cmpR op_eq (pv 1) pe_int (nomark _))
    (pss_one (ps_ret (pe_mc (pv 0) F_Holder_do_run (hr.mono (by decide)) (passX rfl rfl rfl rfl) (pa_cons (pe_ix ix_list (pv 2) pe_int (fun _ _ => rfl)) pa_nil))))
    pss_nil)
    (pss_cons (ps_if (pt_cmpR op_eq (pv 1) pe_int (nomark _))
    (pss_one (ps_ret (pe_mc0 (pv 0) F_Holder_go_back (hr.mono (by decide)) (passX rfl rfl rfl rfl))))
    pss_nil)
    (pss_one (ps_ret (pe_mc0 (pv 0) F_Holder_told_faithful (hr.mono (by decide)) (passX rfl rfl rfl rfl)))))))), ?_⟩
    cases hc with
    | load x =>
      exact absurd hp (by decide)
    | text a x =>
      exact absurd hp (by decide)
    | rule a x y =>
      exact absurd hp (by decide)
    | drop =>
      exact absurd hp (by decide)
    | rules =>
      exact absurd hp (by decide)
    | term =>
      exact absurd hp (by decide)
    | shown =>
      exact absurd hp (by decide)
    | places r =>
      exact absurd hp (by decide)
    | binds r i =>
      exact absurd hp (by decide)
    | step =>
      refine ⟨_, rfl, rfl, _, rfl, ?_⟩
      show if decide (V.int (9 : Int) = V.int (9 : Int)) = true then _ else _
      rw [intEq, decide_eq_true (by decide)]
      refine iteT ?_
      exact ⟨_, rfl, o, dx, _, rfl, ha, rfl, o, dx, st, rfl, hH, ok, ends⟩
    | at_ r i =>
      refine ⟨_, rfl, rfl, _, rfl, ?_⟩
      show if decide (V.int (10 : Int) = V.int (9 : Int)) = true then _ else _
      rw [intEq, decide_eq_false (by decide)]
      refine iteF ?_
      refine ⟨_, rfl, rfl, _, rfl, ?_⟩
      show if decide (V.int (10 : Int) = V.int (10 : Int)) = true then _ else _
      rw [intEq, decide_eq_true (by decide)]
      refine iteT ?_
      obtain ⟨nl, rfl, hnl⟩ := hnv
      exact ⟨_, rfl, o, dx, _, rfl, ha, rfl, _, rfl, nl, _, _, _, rfl, rfl, SqL.of hnl, atI_nat (j := 0) rfl, _, rfl, nl, _, _, _, rfl, rfl, SqL.of hnl, atI_nat (j := 1) rfl, o, dx, st, r, i, rfl, hH, ok, ends⟩
    | run n =>
      refine ⟨_, rfl, rfl, _, rfl, ?_⟩
      show if decide (V.int (11 : Int) = V.int (9 : Int)) = true then _ else _
      rw [intEq, decide_eq_false (by decide)]
      refine iteF ?_
      refine ⟨_, rfl, rfl, _, rfl, ?_⟩
      show if decide (V.int (11 : Int) = V.int (10 : Int)) = true then _ else _
      rw [intEq, decide_eq_false (by decide)]
      refine iteF ?_
      refine ⟨_, rfl, rfl, _, rfl, ?_⟩
      show if decide (V.int (11 : Int) = V.int (11 : Int)) = true then _ else _
      rw [intEq, decide_eq_true (by decide)]
      refine iteT ?_
      obtain ⟨nl, rfl, hnl⟩ := hnv
      exact ⟨_, rfl, o, dx, _, rfl, ha, rfl, _, rfl, nl, _, _, _, rfl, rfl, SqL.of hnl, atI_nat (j := 0) rfl, o, dx, st, n, rfl, hH, ok, ends⟩
    | back =>
      refine ⟨_, rfl, rfl, _, rfl, ?_⟩
      show if decide (V.int (12 : Int) = V.int (9 : Int)) = true then _ else _
      rw [intEq, decide_eq_false (by decide)]
      refine iteF ?_
      refine ⟨_, rfl, rfl, _, rfl, ?_⟩
      show if decide (V.int (12 : Int) = V.int (10 : Int)) = true then _ else _
      rw [intEq, decide_eq_false (by decide)]
      refine iteF ?_
      refine ⟨_, rfl, rfl, _, rfl, ?_⟩
      show if decide (V.int (12 : Int) = V.int (11 : Int)) = true then _ else _
      rw [intEq, decide_eq_false (by decide)]
      refine iteF ?_
      refine ⟨_, rfl, rfl, _, rfl, ?_⟩
      show if decide (V.int (12 : Int) = V.int (12 : Int)) = true then _ else _
      rw [intEq, decide_eq_true (by decide)]
      refine iteT ?_
      refine ⟨_, rfl, o, dx, _, rfl, ha, rfl, o, dx, st, rfl, hH, ok, fun h => ends.rz _ ?_, fun h l hp => ?_⟩
      · show (match st.past with | [] => _ | h :: l => _) = _
        rw [h]
      · have md := ends.md
        have e : Vaglrj.step st .back = ({ st with held := some h, past := l }, [0, (h.term.length : Int)]) := by
          show (match st.past with | [] => _ | h :: l => _) = _
          rw [hp]
        rw [e] at md
        exact md
    | faithful =>
      refine ⟨_, rfl, rfl, _, rfl, ?_⟩
      show if decide (V.int (13 : Int) = V.int (9 : Int)) = true then _ else _
      rw [intEq, decide_eq_false (by decide)]
      refine iteF ?_
      refine ⟨_, rfl, rfl, _, rfl, ?_⟩
      show if decide (V.int (13 : Int) = V.int (10 : Int)) = true then _ else _
      rw [intEq, decide_eq_false (by decide)]
      refine iteF ?_
      refine ⟨_, rfl, rfl, _, rfl, ?_⟩
      show if decide (V.int (13 : Int) = V.int (11 : Int)) = true then _ else _
      rw [intEq, decide_eq_false (by decide)]
      refine iteF ?_
      refine ⟨_, rfl, rfl, _, rfl, ?_⟩
      show if decide (V.int (13 : Int) = V.int (12 : Int)) = true then _ else _
      rw [intEq, decide_eq_false (by decide)]
      refine iteF ?_
      exact ⟨_, rfl, o, dx, _, rfl, ha, rfl, o, dx, st, rfl, hH, ok, ends⟩
end
end TW
set_option Elab.async false
set_option linter.all false
set_option maxRecDepth 100000
set_option maxHeartbeats 4000000
namespace TW
open PySem PySem.Spec PyProof.Rows L2
open Vaglrc (Sym Rule Grammar Node)
open Vaglrj (State Held)
open TR (StOk kindsT Go NoHole GOk trues)
section
variable {P : Program} {w : World} {K : PySem.W.Frag} {mg : Str → Option Value} {base : Heap} {C fI G Ho L : Addr}
theorem xf_of (Rf : PySem.RfX.RfTxt K mg C fI) : XfC K C := ⟨Rf.ga, Rf.gg, Rf.exC, Rf.hdC⟩
def sp_answered (C G Ho : Addr) : Sp := fun vs H Q _ => ∃ (o dx : Addr) (s : State) (p : Int) (nv rv : V) (xs : List Int) (rows : List (List Int)) (c : Vaglrj.Call), vs = [.ref o, .int p, nv, rv] ∧ HoldV G Ho H o dx s ∧ StOk s ∧ IntsV H nv xs ∧ RowsV H rv rows ∧ (∀ x ∈ rows, x.length ≤ 2000) ∧ CallI p xs rows c ∧ Made G Ho H Q o dx (Vaglrj.step s c).1 (Vaglrj.step s c).2
def tLt4 (n : Int) (a : TS) : TS := tIfS (tTest (tOp (rI0 fun i j => .bl (decide (i < j))) (tVar 1) (tC (.int n)))) a tNext
def tArg4 : TA := tCons (tVar 0) (tCons (tVar 1) (tCons (tVar 2) (tCons (tVar 3) tNil)))
def tArg3 : TA := tCons (tVar 0) (tCons (tVar 1) (tCons (tVar 2) tNil))
abbrev s_answered : Stmt := topS 72
/-- 0 holder, 1 call, 2 numbers, 3 rows, 4 e -/
theorem sc_answered : FnScope ["holder", "call", "numbers", "rows", "e"] ["holder", "call", "numbers", "rows"] (defScope s_answered) := ⟨rfl, rfl, rfl, by decide +kernel, rfl, by decide +kernel, by decide +kernel⟩
theorem ok_answered {f : Addr} {fd : FuncData} (F : Fun K "answered" "answered" s_answered f fd) (T : Glob mg) (Rf : PySem.RfX.RfTxt K mg C fI) (F_changed : FnC P w K mg base (L2.CX P w) 10 "changed" ["holder", "call", "numbers", "rows"] (sp_changed C G Ho))
    (F_looked : FnC P w K mg base (L2.CX P w) 6 "looked" ["holder", "call", "numbers"] (sp_looked C G Ho)) (F_stepped : FnC P w K mg base (L2.CX P w) 9 "stepped" ["holder", "call", "numbers"] (sp_stepped C G Ho)) : FnOk P w K mg base CX0 11 f fd ["holder", "call", "numbers", "rows"] (sp_answered C G Ho) := by
  refine F.ok sc_answered (fun vs H Q E h => ?_) (fun cdv A outer s H vs Q E hr h => ?_)
  · obtain ⟨_, _, _, _, _, _, _, _, _, rfl, _⟩ := h
    rfl
  · obtain ⟨o, dx, st, p, nv, rv, xs, rows, c, rfl, hH, ok, hnv, hrv, hrn, hc, md⟩ := h
    refine ⟨_, pss_one (ps_try_as (c := .ref C) (i := 4)
        (tb := fun W => tSeq (tLt4 4 (tRet (tCallS (sp_changed C G Ho) (WE W) tArg4))) (tSeq (tLt4 9 (tRet (tCallS (sp_looked C G Ho) (WE W) tArg3))) (tRet (tCallS (sp_stepped C G Ho) (WE W) tArg3))))
        (ts := fun a cls d => tRet (tLst (tCons (tXf a cls d C "number" (tVar 4)) tNil))) (Wout := fun _ _ _ _ => False) rfl rfl sc_answered.nd rfl rfl ⟨rfl, by decide, .inl Rf.gC⟩ takes0
        (fun W pn xe tk _ => pss_cons (ps_if (pt_cmpR op_lt (pv 1) pe_int (nomark _)) (pss_one (ps_ret (by exact (pe_fcS F_changed (hr.mono (by decide)) (fun σ => passAt tk σ) (by exact (pa_cons (pv 0) (pa_cons (pv 1) (pa_cons (pv 2) (pa_cons (pv 3) pa_nil))))))))) pss_nil)
          (pss_cons (ps_if (pt_cmpR op_lt (pv 1) pe_int (nomark _)) (pss_one (ps_ret (by exact (pe_fcS F_looked (hr.mono (by decide)) (fun σ => passAt tk σ) (by exact (pa_cons (pv 0) (pa_cons (pv 1) (pa_cons (pv 2) pa_nil)))))))) pss_nil)
          (pss_one (ps_ret (by exact (pe_fcS F_stepped (hr.mono (by decide)) (fun σ => passAt tk σ) (by exact (pa_cons (pv 0) (pa_cons (pv 1) (pa_cons (pv 2) pa_nil))))))))))
        (fun a oe cls d pn hz hf => pss_one (ps_ret (pe_lst (by exact (pa_cons (pe_xf (xf_of Rf) Rf.noN hz hf (pv 4)) pa_nil)))))), ?_⟩
    refine ⟨_, rfl, _, _, rfl, rfl, _, rfl, ?_⟩
    show if decide (p < (4 : Int)) = true then _ else _
    by_cases h4 : p < 4
    · rw [decide_eq_true h4]
      refine iteT ?_
      refine ⟨_, rfl, _, rfl, _, rfl, _, rfl, o, dx, st, p, nv, rv, xs, rows, c, rfl, hH, ok, hnv, hrv, hrn, hc, h4, ⟨fun n hn H' d e1 hd => ?_, md⟩⟩
      refine ⟨true, Rf.te, fun _ a0 _ => ?_, fun q => Bool.noConfusion q⟩
      refine ⟨_, rfl, rfl, rfl, d, _, _, rfl, hd, rfl, one_line, fun l hl => ?_⟩
      rw [hn] at md
      exact md _ l (del_mono (e1.tr (Ex.new hl))) (hH.mono (e1.tr (Ex.new hl))) (e1.back hl) upd_same
    · rw [decide_eq_false h4]
      refine iteF ?_
      refine ⟨_, rfl, _, _, rfl, rfl, _, rfl, ?_⟩
      show if decide (p < (9 : Int)) = true then _ else _
      by_cases h9 : p < 9
      · rw [decide_eq_true h9]
        refine iteT ?_
        refine ⟨_, rfl, _, rfl, _, rfl, o, dx, st, p, nv, xs, rows, c, rfl, hH, ok, hnv, hc, ⟨by omega, h9⟩, ⟨fun n hn H' d e1 hd => ?_, md⟩⟩
        refine ⟨true, Rf.te, fun _ a0 _ => ?_, fun q => Bool.noConfusion q⟩
        refine ⟨_, rfl, rfl, rfl, d, _, _, rfl, hd, rfl, one_line, fun l hl => ?_⟩
        rw [hn] at md
        exact md _ l (del_mono (e1.tr (Ex.new hl))) (hH.mono (e1.tr (Ex.new hl))) (e1.back hl) upd_same
      · rw [decide_eq_false h9]
        refine iteF ?_
        refine ⟨_, rfl, _, rfl, _, rfl, o, dx, st, p, nv, xs, rows, c, rfl, hH, ok, hnv, hc, by omega, ⟨fun n hn H' d e1 hd => ?_, md⟩⟩
        refine ⟨true, Rf.te, fun _ a0 _ => ?_, fun q => Bool.noConfusion q⟩
        refine ⟨_, rfl, rfl, rfl, d, _, _, rfl, hd, rfl, one_line, fun l hl => ?_⟩
        rw [hn] at md
        exact md _ l (del_mono (e1.tr (Ex.new hl))) (hH.mono (e1.tr (Ex.new hl))) (e1.back hl) upd_same
end
end TW
set_option Elab.async false
set_option linter.all false
set_option maxRecDepth 100000
set_option maxHeartbeats 4000000
namespace TW
open PySem PySem.Spec PyProof.Rows L2
open Vaglrc (Sym Rule Grammar Node)
open Vaglrj (State Held)
open TR (StOk kindsT Go NoHole GOk trues)
/-! ### the flat line of calls, by place -/
def numsOf : List Nat := [0, 1, 1, 0, 0, 0, 0, 1, 2, 0, 2, 1, 0, 0]
def rowsOf : List Nat := [1, 1, 2, 0, 0, 0, 0, 0, 0, 0, 0, 0, 0, 0]
theorem shape_inv {p : Int} {n k : Nat} (h : PyVaglrj.shape p = some (n, k)) : ∃ i : Nat, p = (i : Int) ∧ numsOf[i]? = some n ∧ rowsOf[i]? = some k := by
  unfold PyVaglrj.shape at h
  by_cases h0 : p = 0
  · rw [if_pos h0] at h; cases h; exact ⟨0, h0, rfl, rfl⟩
  rw [if_neg h0] at h
  by_cases h1 : p = 1
  · rw [if_pos h1] at h; cases h; exact ⟨1, h1, rfl, rfl⟩
  rw [if_neg h1] at h
  by_cases h2 : p = 2
  · rw [if_pos h2] at h; cases h; exact ⟨2, h2, rfl, rfl⟩
  rw [if_neg h2] at h
  by_cases h3 : p = 3
  · rw [if_pos h3] at h; cases h; exact ⟨3, h3, rfl, rfl⟩
  rw [if_neg h3] at h
  by_cases h4 : p = 4
  · rw [if_pos h4] at h; cases h; exact ⟨4, h4, rfl, rfl⟩
  rw [if_neg h4] at h
  by_cases h5 : p = 5
  · rw [if_pos h5] at h; cases h; exact ⟨5, h5, rfl, rfl⟩
  rw [if_neg h5] at h
  by_cases h6 : p = 6
  · rw [if_pos h6] at h; cases h; exact ⟨6, h6, rfl, rfl⟩
  rw [if_neg h6] at h
  by_cases h7 : p = 7
  · rw [if_pos h7] at h; cases h; exact ⟨7, h7, rfl, rfl⟩
  rw [if_neg h7] at h
  by_cases h8 : p = 8
  · rw [if_pos h8] at h; cases h; exact ⟨8, h8, rfl, rfl⟩
  rw [if_neg h8] at h
  by_cases h9 : p = 9
  · rw [if_pos h9] at h; cases h; exact ⟨9, h9, rfl, rfl⟩
  rw [if_neg h9] at h
  by_cases h10 : p = 10
  · rw [if_pos h10] at h; cases h; exact ⟨10, h10, rfl, rfl⟩
  rw [if_neg h10] at h
  by_cases h11 : p = 11
  · rw [if_pos h11] at h; cases h; exact ⟨11, h11, rfl, rfl⟩
  rw [if_neg h11] at h
  by_cases h12 : p = 12
  · rw [if_pos h12] at h; cases h; exact ⟨12, h12, rfl, rfl⟩
  rw [if_neg h12] at h
  by_cases h13 : p = 13
  · rw [if_pos h13] at h; cases h; exact ⟨13, h13, rfl, rfl⟩
  rw [if_neg h13] at h
  cases h
theorem len1 {α : Type} {l : List α} (h : l.length = 1) : ∃ a, l = [a] := List.length_eq_one_iff.mp h
theorem len2 {α : Type} {l : List α} (h : l.length = 2) : ∃ a b, l = [a, b] := by
  match l, h with
  | [a, b], _ => exact ⟨a, b, rfl⟩
theorem call_is {p : Int} {n k : Nat} (h : PyVaglrj.shape p = some (n, k)) {xs : List Int} {rows : List (List Int)} (hx : xs.length = n) (hr : rows.length = k) : ∃ c, CallI p xs rows c ∧ VaglrjNeutral.callOf ((p :: xs) :: rows) = some c := by
  obtain ⟨i, rfl, h1, h2⟩ := shape_inv h
  match i, h1, h2 with
  | 0, h1, h2 =>
    cases h1; cases h2
    obtain rfl := List.eq_nil_of_length_eq_zero hx; obtain ⟨x, rfl⟩ := len1 hr
    exact ⟨_, .load x, rfl⟩
  | 1, h1, h2 =>
    cases h1; cases h2
    obtain ⟨a, rfl⟩ := len1 hx; obtain ⟨x, rfl⟩ := len1 hr
    exact ⟨_, .text a x, rfl⟩
  | 2, h1, h2 =>
    cases h1; cases h2
    obtain ⟨a, rfl⟩ := len1 hx; obtain ⟨x, y, rfl⟩ := len2 hr
    exact ⟨_, .rule a x y, rfl⟩
  | 3, h1, h2 =>
    cases h1; cases h2
    obtain rfl := List.eq_nil_of_length_eq_zero hx; obtain rfl := List.eq_nil_of_length_eq_zero hr
    exact ⟨_, .drop, rfl⟩
  | 4, h1, h2 =>
    cases h1; cases h2
    obtain rfl := List.eq_nil_of_length_eq_zero hx; obtain rfl := List.eq_nil_of_length_eq_zero hr
    exact ⟨_, .rules, rfl⟩
  | 5, h1, h2 =>
    cases h1; cases h2
    obtain rfl := List.eq_nil_of_length_eq_zero hx; obtain rfl := List.eq_nil_of_length_eq_zero hr
    exact ⟨_, .term, rfl⟩
  | 6, h1, h2 =>
    cases h1; cases h2
    obtain rfl := List.eq_nil_of_length_eq_zero hx; obtain rfl := List.eq_nil_of_length_eq_zero hr
    exact ⟨_, .shown, rfl⟩
  | 7, h1, h2 =>
    cases h1; cases h2
    obtain ⟨a, rfl⟩ := len1 hx; obtain rfl := List.eq_nil_of_length_eq_zero hr
    exact ⟨_, .places a, rfl⟩
  | 8, h1, h2 =>
    cases h1; cases h2
    obtain ⟨a, b, rfl⟩ := len2 hx; obtain rfl := List.eq_nil_of_length_eq_zero hr
    exact ⟨_, .binds a b, rfl⟩
  | 9, h1, h2 =>
    cases h1; cases h2
    obtain rfl := List.eq_nil_of_length_eq_zero hx; obtain rfl := List.eq_nil_of_length_eq_zero hr
    exact ⟨_, .step, rfl⟩
  | 10, h1, h2 =>
    cases h1; cases h2
    obtain ⟨a, b, rfl⟩ := len2 hx; obtain rfl := List.eq_nil_of_length_eq_zero hr
    exact ⟨_, .at_ a b, rfl⟩
  | 11, h1, h2 =>
    cases h1; cases h2
    obtain ⟨a, rfl⟩ := len1 hx; obtain rfl := List.eq_nil_of_length_eq_zero hr
    exact ⟨_, .run a, rfl⟩
  | 12, h1, h2 =>
    cases h1; cases h2
    obtain rfl := List.eq_nil_of_length_eq_zero hx; obtain rfl := List.eq_nil_of_length_eq_zero hr
    exact ⟨_, .back, rfl⟩
  | 13, h1, h2 =>
    cases h1; cases h2
    obtain rfl := List.eq_nil_of_length_eq_zero hx; obtain rfl := List.eq_nil_of_length_eq_zero hr
    exact ⟨_, .faithful, rfl⟩
  | i + 14, h1, _ => cases h1
theorem rows_inv {l : List Int} {i k : Nat} {xs : List (List Int)} {t : List Int} (h : PyFlat.rows (k + 1) (l.drop i) = some (xs, t)) : ∃ n ys, l[i]? = some n ∧ 0 ≤ n ∧ i + 1 + n.toNat ≤ l.length ∧ xs = (l.drop (i + 1)).take n.toNat :: ys ∧ PyFlat.rows k (l.drop (i + 1 + n.toNat)) = some (ys, t) := by
  unfold PyFlat.rows at h
  rcases Nat.lt_or_ge i l.length with hi | hi
  · rw [List.drop_eq_getElem_cons hi] at h
    unfold PyFlat.row at h
    dsimp only at h
    by_cases hc : 0 ≤ l[i] ∧ l[i].toNat ≤ (l.drop (i + 1)).length
    · rw [if_pos hc] at h
      dsimp only at h
      cases e : PyFlat.rows k ((l.drop (i + 1)).drop l[i].toNat) with
      | none => rw [e] at h; cases h
      | some q =>
        obtain ⟨ys, t'⟩ := q
        rw [e] at h
        cases h
        have h2 := hc.2
        rw [List.length_drop] at h2
        exact ⟨l[i], ys, List.getElem?_eq_getElem hi, hc.1, by omega, rfl, by rw [← List.drop_drop]; exact e⟩
    · rw [if_neg hc] at h; cases h
  · rw [List.drop_eq_nil_of_le hi] at h
    cases h
theorem rows_len : ∀ {k : Nat} {r : List Int} {xs : List (List Int)} {t : List Int}, PyFlat.rows k r = some (xs, t) → xs.length = k
  | 0, r, xs, t, h => by cases h; rfl
  | k + 1, r, xs, t, h => by
    obtain ⟨n, ys, _, _, _, rfl, h2⟩ := rows_inv (l := r) (i := 0) h
    rw [List.length_cons, rows_len h2]
theorem call_inv {l : List Int} {i : Nat} {c : List (List Int)} {t : List Int} (h : PyFlat.call PyVaglrj.shape (l.drop i) = some (c, t)) : ∃ p n k xs, l[i]? = some p ∧ PyVaglrj.shape p = some (n, k) ∧ c = (p :: (l.drop (i + 1)).take n) :: xs ∧ i + 1 + n ≤ l.length ∧ PyFlat.rows k (l.drop (i + 1 + n)) = some (xs, t) := by
  rcases Nat.lt_or_ge i l.length with hi | hi
  · rw [List.drop_eq_getElem_cons hi] at h
    unfold PyFlat.call at h
    dsimp only at h
    cases hs : PyVaglrj.shape l[i] with
    | none => rw [hs] at h; cases h
    | some nk =>
      obtain ⟨n, k⟩ := nk
      rw [hs] at h
      dsimp only at h
      by_cases hc : (l.drop (i + 1)).length < n
      · rw [if_pos hc] at h; cases h
      · rw [if_neg hc] at h
        cases e : PyFlat.rows k ((l.drop (i + 1)).drop n) with
        | none => rw [e] at h; cases h
        | some q =>
          obtain ⟨ys, t'⟩ := q
          rw [e] at h
          cases h
          rw [List.length_drop] at hc
          exact ⟨l[i], n, k, ys, List.getElem?_eq_getElem hi, hs, rfl, by omega, by rw [← List.drop_drop]; exact e⟩
  · rw [List.drop_eq_nil_of_le hi] at h
    cases h
end TW
set_option Elab.async false
set_option linter.all false
set_option maxRecDepth 100000
set_option maxHeartbeats 4000000
namespace TW
open PySem PySem.Spec PyProof.Rows L2
open Vaglrc (Sym Rule Grammar Node)
open Vaglrj (State Held)
open TR (StOk kindsT Go NoHole GOk trues)
def CallV (H : Hp) (v : V) (p : Int) (xs : List Int) (rows : List (List Int)) (e : Nat) : Prop := ∃ t nv rv, v = .ref t ∧ H t = some (.tup [.int p, nv, rv, vN e]) ∧ IntsV H nv xs ∧ RowsV H rv rows
/-- a written tuple -/
def WTup (K : PySem.W.Frag) (mg : Str → Option Value) (x : Str) (ns : List Nat) : Prop := ∃ a, mg x = some (.ref a) ∧ ∀ H, SqT K H a (ns.map vN)
section
variable {P : Program} {w : World} {K : PySem.W.Frag} {mg : Str → Option Value} {base : Heap} {C fI G Ho L : Addr}
theorem take_of {l : List Int} {a n : Nat} : cutV (l.map V.int) (some ((a : Nat) : Int)) (some ((a + n : Nat) : Int)) = ((l.drop a).take n).map V.int := by
  rw [cutV_both (by omega), Nat.add_sub_cancel_left, ← List.map_drop, ← List.map_take]
theorem sqL_mono {K : PySem.W.Frag} {H H' : Hp} {a : Addr} {xs : List V} (e : Ex H H') (h : SqL K H a xs) : SqL K H' a xs :=
  h.elim (fun h => .inl (h.elim (fun h => .inl (e _ _ h)) fun ⟨o, h⟩ => .inr ⟨o, e _ _ h⟩)) fun h => .inr h
def sp_call_at (K : PySem.W.Frag) : Sp := fun vs H Q _ => ∃ (ll : Addr) (l : List Int) (i : Nat) (p : Int) (xs : List Int) (rows : List (List Int)) (t : List Int), vs = [.ref ll, vN i] ∧ SqL K H ll (l.map V.int) ∧ l.length ≤ 17000 ∧ PyFlat.call PyVaglrj.shape (l.drop i) = some ((p :: xs) :: rows, t) ∧
  ∀ H' v e, t = l.drop e → i < e → e ≤ l.length → Ex H H' → CallV H' v p xs rows e → Q v H'
abbrev s_call_at : Stmt := topS 68
/-- 0 calls, 1 at, 2 call, 3 stop, 4 numbers, 5 rows, 6 turn, 7 begin -/
theorem sc_call_at : FnScope ["calls", "at", "call", "stop", "numbers", "rows", "turn", "begin"] ["calls", "at"] (defScope s_call_at) := ⟨rfl, rfl, rfl, by decide +kernel, rfl, by decide +kernel, by decide +kernel⟩
theorem ok_call_at {f : Addr} {fd : FuncData} (F : Fun K "call_at" "call_at" s_call_at f fd) (T : Glob mg) (TN : WTup K mg "NUMBERS" numsOf) (TO : WTup K mg "ROWS" rowsOf) : FnOk P w K mg base CX0 1 f fd ["calls", "at"] (sp_call_at K) := by
  refine F.ok sc_call_at (fun vs H Q E h => ?_) (fun cdv A outer s H vs Q E hr h => ?_)
  · obtain ⟨_, _, _, _, _, _, _, rfl, _⟩ := h
    rfl
  · obtain ⟨ll, l, i, p, xs, rows, t, rfl, hl, hl17, hcall, ret⟩ := h
    obtain ⟨aNUMBERS, hNUMBERS, hnum⟩ := TN
    obtain ⟨aROWS, hROWS, hrow⟩ := TO
    obtain ⟨p', n, k, rows', hp, hs, hc, hin, hrows⟩ := call_inv hcall
    cases hc
    obtain ⟨pn, rfl, hn, hk⟩ := shape_inv hs
    have hil := (List.getElem?_eq_some_iff.mp hp).1
    have hn2 : n ≤ 2 := by
      have := List.mem_of_getElem? hn
      simp [numsOf] at this; omega
    have hk2 : k ≤ 2 := by
      have := List.mem_of_getElem? hk
      simp [rowsOf] at this; omega
    refine ⟨_, (pss_cons (ps_set (i := 2) sc_call_at.nd rfl (Or.inl rfl) (pe_ix ix_list (pv 0) (pv 1) (fun _ _ => rfl)))
    (pss_cons (ps_set (i := 3) sc_call_at.nd rfl (Or.inl rfl) (pe_op op_add (pe_op op_add (pv 1) pe_int) (pe_ix ix_tup (pe_glob (v := .ref aNUMBERS) rfl hNUMBERS rfl) (pv 2) (fun _ _ => rfl))))
    (pss_cons (ps_set (i := 4) sc_call_at.nd rfl (Or.inl rfl) (pe_slice sl_list (pv 0) (po_some (pe_op op_add (pv 1) pe_int)) (po_some (pv 3))))
    (pss_cons (ps_set (i := 5) sc_call_at.nd rfl (Or.inl rfl) (pe_lst pa_nil))
    (pss_cons (ps_for PassesOwn.never rfl (pi_range1 (by rfl) T.range (pa_cons (pe_ix ix_tup (pe_glob (v := .ref aROWS) rfl hROWS rfl) (pv 2) (fun _ _ => rfl)) pa_nil)) (pg_name (i := 6) sc_call_at.nd rfl (Or.inl rfl))
    (pss_cons (ps_set (i := 7) sc_call_at.nd rfl (Or.inl rfl) (pe_op op_add (pv 3) pe_int))
    (pss_cons (ps_set (i := 3) sc_call_at.nd rfl (Or.inl rfl) (pe_op op_add (pv 7) (pe_ix ix_list (pv 0) (pe_op op_sub (pv 7) pe_int) (fun _ _ => rfl))))
    (pss_one (ps_expr (pe_bm PySem.F.plainAttrs_list PySem.F.slot_list_append PySem.F.type_list_append mt_append (pv 5) (pa_cons (pe_slice sl_list (pv 0) (po_some (pv 7)) (po_some (pv 3))) pa_nil)))))))
    (pss_one (ps_ret (pe_tup (pa_cons (pv 2) (pa_cons (pv 4) (pa_cons (pv 5) (pa_cons (pv 3) pa_nil)))))))))))), ?_⟩
    refine ⟨_, rfl, _, rfl, ll, _, _, _, rfl, rfl, hl, atI_nat (map_int_get hp), ?_⟩
    refine ⟨_, rfl, _, _, rfl, rfl, _, rfl, aNUMBERS, _, _, _, rfl, rfl, hnum H, atI_nat (map_vN_get hn), _, _, rfl, rfl, ?_⟩
    have hst : V.int (((i : Nat) : Int) + 1 + ((n : Nat) : Int)) = vN (i + 1 + n) := rfl
    refine ⟨_, rfl, _, rfl, _, _, rfl, rfl, _, rfl, _, rfl, _, rfl, ll, _, rfl, hl, fun nl hnl => ?_⟩
    have e1 : Ex H (upd H nl (.lst (cutV (l.map V.int) (some (((i : Nat) : Int) + 1)) (some (((i : Nat) : Int) + 1 + ((n : Nat) : Int)))))) := Ex.new hnl
    have h1 : upd H nl (.lst (cutV (l.map V.int) (some (((i : Nat) : Int) + 1)) (some (((i : Nat) : Int) + 1 + ((n : Nat) : Int))))) nl = some (.lst (((l.drop (i + 1)).take n).map V.int)) := by
      rw [upd_same]
      exact congrArg (fun z => some (HO.lst z)) (take_of (a := i + 1))
    generalize upd H nl (.lst (cutV (l.map V.int) (some (((i : Nat) : Int) + 1)) (some (((i : Nat) : Int) + 1 + ((n : Nat) : Int))))) = H1 at e1 h1
    refine ⟨nil_line, fun rl hrl => ?_⟩
    have e2 : Ex H1 (upd H1 rl (.lst [])) := Ex.new hrl
    refine ⟨_, rfl, aROWS, _, _, _, rfl, rfl, hrow _, atI_nat (map_vN_get hk), _, rfl, by omega, by omega, for_range (fun j σ H' => ∃ (e : Nat) (don todo : List (List Int)) (v6 v7 : Option V), σ = [some (.ref ll), some (vN i), some (.int (pn : Int)), some (vN e), some (.ref nl), some (.ref rl), v6, v7] ∧ Ex H1 H' ∧ MList IntsV H' rl don ∧ don.length = j ∧ rows = don ++ todo ∧ i < e ∧ e ≤ l.length ∧ PyFlat.rows (k - j) (l.drop e) = some (todo, t))
      ⟨i + 1 + n, [], rows, none, none, rfl, e2, MList.new hrl, rfl, rfl, by omega, hin, hrows⟩ ?_ ?_⟩
    · rintro j σ H2 hj ⟨e, don, todo, v6, v7, rfl, e3, hM, hdl, hro, hie, hel, hrw⟩
      have hjk : j < k := by omega
      rw [show k - j = (k - (j + 1)) + 1 by omega] at hrw
      obtain ⟨m, ys, hm, hm0, hme, rfl, hrw2⟩ := rows_inv hrw
      have hl2 := sqL_mono (e1.tr e3) hl
      refine ⟨_, rfl, _, _, rfl, rfl, ?_⟩
      have hat : atI (l.map V.int) (((e : Nat) : Int) + 1 - 1) = some (V.int m) := by
        rw [show ((e : Nat) : Int) + 1 - 1 = (e : Int) by omega]; exact atI_nat (map_int_get hm)
      refine ⟨_, rfl, _, rfl, _, rfl, _, _, rfl, rfl, ll, _, _, _, rfl, rfl, hl2, hat, _, _, rfl, rfl, ?_⟩
      obtain ⟨rvs, hrv, hrp⟩ := hM
      have hmm : ((e : Nat) : Int) + 1 + m = ((e + 1 + m.toNat : Nat) : Int) := by omega
      have hrvl := Paired.len hrp
      refine ⟨_, rfl, .inl ⟨rfl, _, SqL.of hrv⟩, _, rfl, _, rfl, _, rfl, _, rfl, _, rfl, ll, _, rfl, hl2, fun sl hsl => ?_⟩
      rw [hmm]
      have e4 : Ex H2 (upd H2 sl (.lst (cutV (l.map V.int) (some (((e : Nat) : Int) + 1)) (some ((e + 1 + m.toNat : Nat) : Int))))) := Ex.new hsl
      have h4 : upd H2 sl (.lst (cutV (l.map V.int) (some (((e : Nat) : Int) + 1)) (some ((e + 1 + m.toNat : Nat) : Int)))) sl = some (.lst (((l.drop (e + 1)).take m.toNat).map V.int)) := by
        rw [upd_same]
        exact congrArg (fun z => some (HO.lst z)) (take_of (a := e + 1))
      have nsl : sl ≠ rl := fun q => by rw [q, hrv] at hsl; cases hsl
      generalize upd H2 sl (.lst (cutV (l.map V.int) (some (((e : Nat) : Int) + 1)) (some ((e + 1 + m.toNat : Nat) : Int)))) = H3 at e4 h4
      refine ⟨rl, _, _, rfl, rfl, e4 _ _ hrv, small_lt (by omega), e + 1 + m.toNat, don ++ [(l.drop (e + 1)).take m.toNat], ys, _, _, congrArg (fun z => [some (V.ref ll), some (vN i), some (V.int (pn : Int)), some z, some (V.ref nl), some (V.ref rl), some (V.int (0 + (j : Int))), some (V.int ((e : Int) + 1))]) (show V.int (((e : Nat) : Int) + 1 + m) = vN (e + 1 + m.toNat) by rw [hmm]; rfl), (e3.tr e4).mut hrl, ?_, by rw [List.length_append, hdl]; rfl, by rw [hro, List.append_assoc]; rfl, by omega, hme, hrw2⟩
      exact MList.snoc (e4 _ _ hrv) (Paired.mono2 hrp fun v x q => IntsV.mono (del_mono e4) q) ⟨sl, rfl, by rw [del_ne nsl]; exact h4⟩
    · rintro σ H2 ⟨e, don, todo, v6, v7, rfl, e3, hM, hdl, hro, hie, hel, hrw⟩
      rw [show k - ((k : Int)).toNat = 0 by omega] at hrw
      have hrw' : some (([] : List (List Int)), l.drop e) = some (todo, t) := hrw
      cases hrw'
      rw [List.append_nil] at hro
      subst hro
      have e13 := e1.tr e3
      refine ⟨_, rfl, _, rfl, _, rfl, _, rfl, four_line, fun tp htp => ?_⟩
      have e4 := Ex.new (o := .tup [V.int (pn : Int), .ref nl, .ref rl, vN e]) htp
      refine ret _ _ e rfl hie hel (e13.tr e4) ⟨tp, _, _, rfl, upd_same, ⟨nl, rfl, e4 _ _ (e3 _ _ h1)⟩, ListV.mono (P := IntsV) (fun _ _ _ _ => IntsV.mono) e4 (MList.toV (fun _ _ _ _ => IntsV.mono) hM)⟩
end
end TW
set_option Elab.async false
set_option linter.all false
set_option maxRecDepth 100000
set_option maxHeartbeats 4000000
namespace TW
open PySem PySem.Spec PyProof.Rows L2
open Vaglrc (Sym Rule Grammar Node)
open Vaglrj (State Held)
open TR (StOk kindsT Go NoHole GOk trues)
/-! ### data apart from what is no list, no tuple, no instance -/
structure Odd (H : Hp) (p : Addr) : Prop where
  l : ∀ xs, H p ≠ some (.lst xs)
  t : ∀ xs, H p ≠ some (.tup xs)
  i : ∀ C d fs, H p ≠ some (.ins C d fs)
section
variable {H : Hp} {p : Addr}
theorem natsV_odd {v : V} {ns : List Nat} (o : Odd H p) (h : NatsV H v ns) : NatsV (del H p) v ns := by
  obtain ⟨l, rfl, h⟩ := h
  exact ⟨l, rfl, by rw [del_ne (fun e => o.l _ (by rw [e] at h; exact h))]; exact h⟩
theorem symV_odd {v : V} {s : Sym} (o : Odd H p) (h : SymV H v s) : SymV (del H p) v s := by
  obtain ⟨l, rfl, h⟩ := h
  exact ⟨l, rfl, by rw [del_ne (fun e => o.t _ (by rw [e] at h; exact h))]; exact h⟩
theorem symsV_odd {v : V} {s : List Sym} (o : Odd H p) (h : SymsV H v s) : SymsV (del H p) v s := by
  obtain ⟨l, vs, rfl, h, hq⟩ := h
  exact ⟨l, vs, rfl, by rw [del_ne (fun e => o.l _ (by rw [e] at h; exact h))]; exact h, Paired.mono2 hq fun _ _ q => symV_odd o q⟩
theorem ruleV_odd {v : V} {r : Rule × Int} (o : Odd H p) (h : RuleV H v r) : RuleV (del H p) v r := by
  obtain ⟨l, b, rfl, h, hq⟩ := h
  exact ⟨l, b, rfl, by rw [del_ne (fun e => o.t _ (by rw [e] at h; exact h))]; exact h, symsV_odd o hq⟩
theorem rulesV_odd {v : V} {s : List (Rule × Int)} (o : Odd H p) (h : RulesV H v s) : RulesV (del H p) v s := by
  obtain ⟨l, vs, rfl, h, hq⟩ := h
  exact ⟨l, vs, rfl, by rw [del_ne (fun e => o.l _ (by rw [e] at h; exact h))]; exact h, Paired.mono2 hq fun _ _ q => ruleV_odd o q⟩
theorem gramV_odd {G : Addr} {v : V} {g : Grammar} (o : Odd H p) (h : GramV G H v g) : GramV G (del H p) v g := by
  obtain ⟨a, dx, fs', rv, rfl, h, h2, h3, h4⟩ := h
  exact ⟨a, dx, fs', rv, rfl, by rw [del_ne (fun e => o.i _ _ _ (by rw [e] at h; exact h))]; exact h, h2, h3, rulesV_odd o h4⟩
theorem rwV_odd {v : V} {r : Vaglrj.Rewrite} (o : Odd H p) (h : RwV H v r) : RwV (del H p) v r := by
  obtain ⟨a, b, c, rfl, h1, h2, h3⟩ := h
  exact ⟨a, b, c, rfl, by rw [del_ne (fun e => o.t _ (by rw [e] at h1; exact h1))]; exact h1, by rw [del_ne (fun e => o.l _ (by rw [e] at h2; exact h2))]; exact h2, by rw [del_ne (fun e => o.l _ (by rw [e] at h3; exact h3))]; exact h3⟩
theorem rwsV_odd {v : V} {r : List Vaglrj.Rewrite} (o : Odd H p) (h : RwsV H v r) : RwsV (del H p) v r := by
  obtain ⟨l, vs, rfl, h, hq⟩ := h
  exact ⟨l, vs, rfl, by rw [del_ne (fun e => o.l _ (by rw [e] at h; exact h))]; exact h, Paired.mono2 hq fun _ _ q => rwV_odd o q⟩
theorem heldV1_odd {v : V} {h : Held} (o : Odd H p) (q : HeldV1 H v h) : HeldV1 (del H p) v h := by
  obtain ⟨a, t, rfl, h2, h3⟩ := q
  exact ⟨a, t, rfl, by rw [del_ne (fun e => o.t _ (by rw [e] at h2; exact h2))]; exact h2, natsV_odd o h3⟩
theorem heldV_odd {v : V} (o : Odd H p) : ∀ {h : Option Held}, HeldV H v h → HeldV (del H p) v h
  | none, q => q
  | some _, q => heldV1_odd o q
theorem pastV_odd {v : V} {h : List Held} (o : Odd H p) (q : PastV H v h) : PastV (del H p) v h := by
  obtain ⟨l, vs, rfl, h, hq⟩ := q
  exact ⟨l, vs, rfl, by rw [del_ne (fun e => o.l _ (by rw [e] at h; exact h))]; exact h, Paired.mono2 hq fun _ _ q => heldV1_odd o q⟩
theorem del_comm {a : Addr} : del (del H a) p = del (del H p) a := by
  funext b
  unfold del
  by_cases h1 : b = a <;> by_cases h2 : b = p <;> simp [h1, h2]
theorem holdV_odd {G Ho a dx : Addr} {s : State} (o : Odd H p) (n : p ≠ a) (h : HoldV G Ho H a dx s) : HoldV G Ho (del H p) a dx s := by
  obtain ⟨gv, wv, hv, bv, ha, h1, h2, h3, h4⟩ := h
  have o' : Odd (del H a) p := ⟨fun xs => by rw [del_ne n]; exact o.l xs, fun xs => by rw [del_ne n]; exact o.t xs, fun C d fs => by rw [del_ne n]; exact o.i C d fs⟩
  refine ⟨gv, wv, hv, bv, by rw [del_ne (Ne.symm n)]; exact ha, ?_, ?_, ?_, ?_⟩ <;> rw [← del_comm]
  · exact gramV_odd o' h1
  · exact rwsV_odd o' h2
  · exact heldV_odd o' h3
  · exact pastV_odd o' h4
end
/-! ### the line of calls -/
theorem calls_nil {f : Nat} {cs : List (List (List Int))} (h : PyFlat.calls PyVaglrj.shape f [] = some cs) : cs = [] := by
  cases f <;> (cases h; rfl)
theorem calls_cons {f : Nat} {l : List Int} {i : Nat} {cs : List (List (List Int))} (hi : i < l.length) (h : PyFlat.calls PyVaglrj.shape f (l.drop i) = some cs) : ∃ f' c t cs', PyFlat.call PyVaglrj.shape (l.drop i) = some (c, t) ∧ PyFlat.calls PyVaglrj.shape f' t = some cs' ∧ cs = c :: cs' := by
  rw [List.drop_eq_getElem_cons hi] at h ⊢
  cases f with
  | zero => cases h
  | succ f =>
    unfold PyFlat.calls at h
    cases e : PyFlat.call PyVaglrj.shape (l[i] :: l.drop (i + 1)) with
    | none => rw [e] at h; cases h
    | some q =>
      obtain ⟨c, t⟩ := q
      rw [e] at h
      dsimp only at h
      cases e2 : PyFlat.calls PyVaglrj.shape f t with
      | none => rw [e2] at h; cases h
      | some cs' =>
        rw [e2] at h
        cases h
        exact ⟨f, c, t, cs', rfl, e2, rfl⟩
theorem rows_small {p : Int} {xs : List Int} {rows : List (List Int)} {c : Vaglrj.Call} (h : CallI p xs rows c) (q : PyInside.call PyVaglrj.bound ((p :: xs) :: rows) = true) : ∀ x ∈ rows, x.length ≤ 2000 := by
  cases h with
  | load x => simp [PyInside.call, PyVaglrj.bound, PyInside.lists, PyInside.each] at q; intro y hy; rw [List.mem_singleton.mp hy]; exact q.1
  | text a x => simp [PyInside.call, PyVaglrj.bound, PyInside.lists, PyInside.each] at q; intro y hy; rw [List.mem_singleton.mp hy]; exact q.2.1
  | rule a x y =>
    simp [PyInside.call, PyVaglrj.bound, PyInside.lists, PyInside.each] at q
    intro z hz
    rcases List.mem_cons.mp hz with e | hz
    · rw [e]; exact q.2.1.1
    · rw [List.mem_singleton.mp hz]; exact q.2.2.1
  | _ => intro y hy; cases hy
theorem step_is {s : State} {p : Int} {xs : List Int} {rows : List (List Int)} {c : Vaglrj.Call} (h : VaglrjNeutral.callOf ((p :: xs) :: rows) = some c) : VaglrjNeutral.step s ((p :: xs) :: rows) = Vaglrj.step s c := by
  unfold VaglrjNeutral.step
  rw [h]
  rfl
theorem asked_inv {l : List Int} (h : PyVaglrj.answers_asked l = true) : ∃ cs, PyFlat.calls PyVaglrj.shape l.length l = some cs ∧ PyVaglrj.answers l = PyFlat.told (PyFlat.played VaglrjNeutral.step Vaglrj.start cs) ∧ (∀ c ∈ cs, PyInside.call PyVaglrj.bound c = true) ∧ (PyVaglrj.answers l).length ≤ 10000000 := by
  unfold PyVaglrj.answers_asked at h
  cases e : PyFlat.calls PyVaglrj.shape l.length l with
  | none => rw [e] at h; cases h
  | some cs =>
    rw [e] at h
    simp only [Bool.and_eq_true] at h
    refine ⟨cs, rfl, ?_, fun c hc => List.all_eq_true.mp h.1.1.2 c hc, of_decide_eq_true h.2⟩
    unfold PyVaglrj.answers
    rw [TR.calls_eq, e]
    rfl
end TW
set_option Elab.async false
set_option linter.all false
set_option maxRecDepth 100000
set_option maxHeartbeats 4000000
namespace TW
open PySem PySem.Spec PyProof.Rows L2
open Vaglrc (Sym Rule Grammar Node)
open Vaglrj (State Held)
open TR (StOk kindsT Go NoHole GOk trues)
theorem intsV_odd {H : Hp} {p : Addr} {v : V} {ns : List Int} (o : Odd H p) (h : IntsV H v ns) : IntsV (del H p) v ns := by
  obtain ⟨l, rfl, h⟩ := h
  exact ⟨l, rfl, by rw [del_ne (fun e => o.l _ (by rw [e] at h; exact h))]; exact h⟩
theorem rowsV_odd {H : Hp} {p : Addr} {v : V} {r : List (List Int)} (o : Odd H p) (h : RowsV H v r) : RowsV (del H p) v r := by
  obtain ⟨l, vs, rfl, h, hq⟩ := h
  exact ⟨l, vs, rfl, by rw [del_ne (fun e => o.l _ (by rw [e] at h; exact h))]; exact h, Paired.mono2 hq fun _ _ q => intsV_odd o q⟩
theorem odd_frz {H : Hp} {p : Addr} {od : Obj} {u : HO} (h : H p = some (.frz od u)) : Odd H p :=
  ⟨fun xs q => (by rw [h] at q; cases q), fun xs q => (by rw [h] at q; cases q), fun C d fs q => (by rw [h] at q; cases q)⟩
theorem big_lt {n : Nat} (h : n ≤ 10000000) : n < sizeLine := Nat.lt_of_le_of_lt h (by decide)
theorem told_cons {s : State} {p : Int} {xs : List Int} {rows cs : List (List Int)} {c : Vaglrj.Call} {r : List (List (List Int))} (h : VaglrjNeutral.callOf ((p :: xs) :: rows) = some c) :
    PyFlat.told (PyFlat.played VaglrjNeutral.step s (((p :: xs) :: rows) :: r)) = ((Vaglrj.step s c).2.length : Int) :: ((Vaglrj.step s c).2 ++ PyFlat.told (PyFlat.played VaglrjNeutral.step (Vaglrj.step s c).1 r)) := by
  have e := step_is (s := s) h
  show PyFlat.told ((VaglrjNeutral.step s ((p :: xs) :: rows)).2 :: PyFlat.played VaglrjNeutral.step (VaglrjNeutral.step s ((p :: xs) :: rows)).1 r) = _
  rw [e]
  rfl
/-- the loop over the calls -/
def AnsI (G Ho : Addr) (H : Hp) (ll o fl dx : Addr) (l : List Int) (m : Nat) (σ : L2.St) (H' : Hp) : Prop := ∃ (i : Nat) (s : State) (f : Nat) (cs : List (List (List Int))) (acc : List Int) (v4 v5 v6 v7 : Option V), σ = [some (.ref ll), some (.ref o), some (.ref fl), some (vN i), v4, v5, v6, v7] ∧ Ex H (del H' fl) ∧ HoldV G Ho (del H' fl) o dx s ∧ StOk s ∧ H' fl = some (.lst (acc.map V.int)) ∧
  i ≤ l.length ∧ PyFlat.calls PyVaglrj.shape f (l.drop i) = some cs ∧ (∀ c ∈ cs, PyInside.call PyVaglrj.bound c = true) ∧ PyVaglrj.answers l = acc ++ PyFlat.told (PyFlat.played VaglrjNeutral.step s cs) ∧ m = l.length - i
section
variable {P : Program} {w : World} {K : PySem.W.Frag} {mg : Str → Option Value} {base : Heap} {C fI G Ho L : Addr}
def sp_answers (K : PySem.W.Frag) : Sp := fun vs H Q _ => ∃ (ll : Addr) (l : List Int), vs = [.ref ll] ∧ SqL K H ll (l.map V.int) ∧ l.length ≤ 17000 ∧ PyVaglrj.answers_asked l = true ∧ ∀ H' p, Ex H H' → H' p = some (.lst ((PyVaglrj.answers l).map V.int)) → Q (.ref p) H'
abbrev s_answers : Stmt := topS 73
/-- 0 calls, 1 holder, 2 found, 3 at, 4 call, 5 numbers, 6 rows, 7 told -/
theorem sc_answers : FnScope ["calls", "holder", "found", "at", "call", "numbers", "rows", "told"] ["calls"] (defScope s_answers) := ⟨rfl, rfl, rfl, by decide +kernel, rfl, by decide +kernel, by decide +kernel⟩
theorem ok_answers {f : Addr} {fd : FuncData} (F : Fun K "answers" "answers" s_answers f fd) (T : Glob mg) (M_Holder : MkC P w K mg base CX0 3 "Holder" Ho ["self"] (sp_Holder_init G Ho)) (F_call_at : FnC P w K mg base CX0 1 "call_at" ["calls", "at"] (sp_call_at K))
    (F_answered : FnC P w K mg base CX0 11 "answered" ["holder", "call", "numbers", "rows"] (sp_answered C G Ho)) : FnOk P w K mg base CX0 12 f fd ["calls"] (sp_answers K) := by
  refine F.ok sc_answers (fun vs H Q E h => ?_) (fun cdv A outer s H vs Q E hr h => ?_)
  · obtain ⟨_, _, rfl, _⟩ := h
    rfl
  · obtain ⟨ll, l, rfl, hl, hl17, hask, ret⟩ := h
    obtain ⟨cs0, hcs0, hans, hin, hbig⟩ := asked_inv hask
    refine ⟨_, (pss_cons (ps_set (i := 1) sc_answers.nd rfl (Or.inl rfl) (pe_mkc0 M_Holder (hr.mono (by decide)) pass0))
    (pss_cons (ps_set (i := 2) sc_answers.nd rfl (Or.inl rfl) (pe_lst pa_nil))
    (pss_cons (ps_set (i := 3) sc_answers.nd rfl (Or.inl rfl) pe_int)
    (pss_cons (ps_while PassesOwn.never (pt_cmpR op_lt (pv 3) (pe_callB call_len_seq (by rfl) T.len (by decide +kernel) (pa_cons (pv 0) pa_nil)) (nomark _))
    (pss_cons (ps_lock (ps_asg (pe_fc F_call_at (hr.mono (by decide)) pass0 (pa_cons (pv 0) (pa_cons (pv 3) pa_nil))) (pg_tup rfl (pgs_cons (pg_name (i := 4) sc_answers.nd rfl (Or.inl rfl)) (pgs_cons (pg_name (i := 5) sc_answers.nd rfl (Or.inl rfl)) (pgs_cons (pg_name (i := 6) sc_answers.nd rfl (Or.inl rfl)) (pgs_cons (pg_name (i := 3) sc_answers.nd rfl (Or.inl rfl)) pgs_nil)))))))
    (pss_cons (ps_lock (ps_set (i := 7) sc_answers.nd rfl (Or.inl rfl) (pe_fc F_answered (hr.mono (by decide)) pass0 (pa_cons (pv 1) (pa_cons (pv 4) (pa_cons (pv 5) (pa_cons (pv 6) pa_nil)))))))
    (pss_cons (ps_expr (pe_bm PySem.F.plainAttrs_list PySem.F.slot_list_append PySem.F.type_list_append mt_append (pv 2) (pa_cons (pe_callB call_len_seq (by rfl) T.len (by decide +kernel) (pa_cons (pv 7) pa_nil)) pa_nil)))
    (pss_one (ps_expr (pe_bm PySem.F.plainAttrs_list PySem.F.slot_list_extend PySem.F.type_list_extend mt_extend (pv 2) (pa_cons (pv 7) pa_nil))))))))
    (pss_one (ps_ret (pv 2))))))), ?_⟩
    intro o dx ho hdx hne
    have e1 : Ex H (upd (upd H dx (.own o)) o (.ins Ho dx [])) := (Ex.new hdx).mut ho
    refine ⟨o, dx, rfl, upd_same, fun H2 e2 hH2 => ⟨rfl, ?_⟩⟩
    have e3 : Ex H H2 := (ex_del e1 ho).tr e2
    refine ⟨nil_line, fun fl hfl => ?_⟩
    have hflH : H fl = none := e3.back hfl
    have nfo : fl ≠ o := fun q => by
      obtain ⟨_, _, _, _, h, _⟩ := hH2
      rw [q, h] at hfl; cases hfl
    have hdd : del (upd H2 fl (.lst [])) fl = del H2 fl := del_upd_eq
    have hde : Ex H2 (del H2 fl) := ex_del (Ex.refl _) hfl
    refine ⟨fun m σ H' => AnsI G Ho H ll o fl dx l m σ H', ⟨_, 0, Vaglrj.start, l.length, cs0, [], none, none, none, none, rfl, by rw [hdd]; exact e3.tr hde, by rw [hdd]; exact hH2.mono hde, TR.start_ok, upd_same, Nat.zero_le _, hcs0, hin, hans, rfl⟩, ?_⟩
    rintro m σ H3 ⟨i, st, fu, cs, acc, v4, v5, v6, v7, rfl, ex, hH, ok, hacc, hil, hcs, hins, htold, rfl⟩
    have hl3 : SqL K (del H3 fl) ll (l.map V.int) := sqL_mono ex hl
    have hl3' := sqL_mono del_ex hl3
    refine ⟨_, rfl, _, rfl, ll, _, rfl, .inl (hl3'), _, _, rfl, rfl, _, rfl, ?_⟩
    show if decide ((i : Int) < ((l.map V.int).length : Int)) = true then _ else _
    rw [List.length_map]
    rcases Nat.lt_or_ge i l.length with hlt | hge
    · rw [decide_eq_true (by omega)]
      refine iteT ?_
      refine ⟨fun σ' H' => ∃ m', m' < l.length - i ∧ AnsI G Ho H ll o fl dx l m' σ' H', fun _ _ h => h, ?_⟩
      obtain ⟨f', c0, t, cs', hcall, hcs', rfl⟩ := calls_cons hlt hcs
      obtain ⟨p, n, k, rows, hp, hsh, rfl, hin2, hrows⟩ := call_inv hcall
      obtain ⟨c, hc, hco⟩ := call_is hsh (xs := (l.drop (i + 1)).take n) (rows := rows) (by rw [List.length_take, List.length_drop]; omega) (rows_len hrows)
      generalize (l.drop (i + 1)).take n = xs at *
      have hrn := rows_small hc (hins _ List.mem_cons_self)
      -- call, numbers, rows, at = call_at(calls, at): found is locked
      refine ⟨fl, .lst (acc.map V.int), hacc, trivial, fun od => ?_⟩
      have hz1 : del (upd H3 fl (.frz od (.lst (acc.map V.int)))) fl = del H3 fl := del_upd_eq
      have hl4 : SqL K (upd H3 fl (.frz od (.lst (acc.map V.int)))) ll (l.map V.int) := sqL_mono del_ex (by rw [hz1]; exact hl3)
      have hfz : upd H3 fl (.frz od (.lst (acc.map V.int))) fl = some (.frz od (.lst (acc.map V.int))) := upd_same
      generalize upd H3 fl (.frz od (.lst (acc.map V.int))) = H4 at hz1 hl4 hfz
      refine ⟨_, rfl, _, rfl, ll, l, i, p, xs, rows, t, rfl, hl4, hl17, hcall, fun H5 v e ht hie hel e5 hv => ?_⟩
      obtain ⟨tp, nv, rv, rfl, htp, hnv, hrv⟩ := hv
      have hfz5 := e5 _ _ hfz
      have od5 := odd_frz hfz5
      have e35 : Ex (del H3 fl) (del H5 fl) := by rw [← hz1]; exact del_mono e5
      refine ⟨tp, _, rfl, SqT.of htp, rfl, _, _, rfl, _, _, rfl, _, _, rfl, _, _, rfl, rfl, ?_⟩
      refine ⟨hfz5, ?_⟩
      have hz6 : del (upd H5 fl (.lst (acc.map V.int))) fl = del H5 fl := del_upd_eq
      have hfl6 : upd H5 fl (.lst (acc.map V.int)) fl = some (.lst (acc.map V.int)) := upd_same
      have hnv5 := intsV_odd od5 hnv
      have hrv5 := rowsV_odd od5 hrv
      generalize upd H5 fl (.lst (acc.map V.int)) = H6 at hz6 hfl6
      -- told = answered(..)
      refine ⟨fl, .lst (acc.map V.int), hfl6, trivial, fun od2 => ?_⟩
      have hz7 : del (upd H6 fl (.frz od2 (.lst (acc.map V.int)))) fl = del H5 fl := by rw [del_upd_eq, hz6]
      have hfz7 : upd H6 fl (.frz od2 (.lst (acc.map V.int))) fl = some (.frz od2 (.lst (acc.map V.int))) := upd_same
      generalize upd H6 fl (.frz od2 (.lst (acc.map V.int))) = H7 at hz7 hfz7
      have x57 : Ex (del H5 fl) H7 := by rw [← hz7]; exact del_ex
      refine ⟨_, rfl, _, rfl, _, rfl, _, rfl, o, dx, st, p, nv, rv, xs, rows, c, rfl, hH.mono (e35.tr x57), ok, hnv5.mono x57, ListV.mono (P := IntsV) (fun _ _ _ _ => IntsV.mono) x57 hrv5, hrn, hc, fun H8 al e8 hH8 hal7 hal8 => ?_⟩
      have hfz8 : H8 fl = some (.frz od2 (.lst (acc.map V.int))) := del_ex _ _ (e8 _ _ (by rw [del_ne nfo]; exact hfz7))
      have od8 := odd_frz hfz8
      have nal : al ≠ fl := fun q => by rw [q, hfz8] at hal8; cases hal8
      refine ⟨hfz8, ?_⟩
      have hz9 : del (upd H8 fl (.lst (acc.map V.int))) fl = del H8 fl := del_upd_eq
      have hfl9 : upd H8 fl (.lst (acc.map V.int)) fl = some (.lst (acc.map V.int)) := upd_same
      have hal9 : upd H8 fl (.lst (acc.map V.int)) al = some (.lst ((Vaglrj.step st c).2.map V.int)) := by rw [upd_ne nal]; exact hal8
      generalize upd H8 fl (.lst (acc.map V.int)) = H9 at hz9 hfl9 hal9
      rw [told_cons (cs := []) hco] at htold
      have hlen := congrArg List.length htold
      simp only [List.length_append, List.length_cons] at hlen
      refine ⟨_, rfl, .inl ⟨rfl, _, SqL.of hfl9⟩, _, rfl, al, _, rfl, .inl (SqL.of hal9), fl, _, _, rfl, rfl, hfl9, big_lt (by rw [List.length_map]; omega), ?_⟩
      have hz10 : del (upd H9 fl (.lst (acc.map V.int ++ [V.int (((Vaglrj.step st c).2.map V.int).length : Int)]))) fl = del H8 fl := by rw [del_upd_eq, hz9]
      have hfl10 : upd H9 fl (.lst (acc.map V.int ++ [V.int (((Vaglrj.step st c).2.map V.int).length : Int)])) fl = some (.lst (acc.map V.int ++ [V.int (((Vaglrj.step st c).2.map V.int).length : Int)])) := upd_same
      have hal10 : upd H9 fl (.lst (acc.map V.int ++ [V.int (((Vaglrj.step st c).2.map V.int).length : Int)])) al = some (.lst ((Vaglrj.step st c).2.map V.int)) := by rw [upd_ne nal]; exact hal9
      generalize upd H9 fl (.lst (acc.map V.int ++ [V.int (((Vaglrj.step st c).2.map V.int).length : Int)])) = H10 at hz10 hfl10 hal10
      refine ⟨_, rfl, .inl ⟨rfl, _, SqL.of hfl10⟩, _, rfl, fl, al, _, _, rfl, rfl, hfl10, hal10, Nat.le_of_lt (big_lt (by simp only [List.length_append, List.length_map, List.length_cons, List.length_nil]; omega)), ?_⟩
      have exf : Ex H (del H8 fl) := by
        have a1 : Ex H H7 := (ex.tr e35).tr x57
        exact ex_del ((ex_del a1 ho).tr (e8.tr del_ex)) hflH
      have hH8' := holdV_odd od8 nfo hH8
      refine ⟨l.length - e, by omega, e, (Vaglrj.step st c).1, f', cs', acc ++ ((Vaglrj.step st c).2.length : Int) :: (Vaglrj.step st c).2, _, _, _, _, rfl, by rw [del_upd_eq, hz10]; exact exf, by rw [del_upd_eq, hz10]; exact hH8', TR.step_ok ok c, ?_, hel, by rw [← ht]; exact hcs', fun c' h' => hins c' (List.mem_cons_of_mem _ h'), ?_, rfl⟩
      · rw [upd_same]
        simp
      · rw [htold]; simp
    · rw [decide_eq_false (by omega)]
      refine iteF ?_
      rw [List.drop_eq_nil_of_le hge] at hcs
      have := calls_nil hcs
      subst this
      have htold' : PyVaglrj.answers l = acc := by rw [htold]; exact List.append_nil _
      exact ⟨_, rfl, ret H3 fl (ex.tr del_ex) (by rw [htold']; exact hacc)⟩
end
end TW
set_option Elab.async false
set_option linter.all false
set_option maxRecDepth 100000
set_option maxHeartbeats 4000000
namespace TW
open PySem PySem.Spec PyProof.Rows L2
section
variable {P : Program} {w : World} {K : PySem.W.Frag} {mg : Str → Option Value} {base : Heap}
theorem mk_fc {CX : CXT} {k : Nat} {x : Str} {ps : List Str} {sp : Sp} {st : Stmt} {f : Addr} {fd : FuncData} (F : Fun K x x st f fd) (g : mg x = some (.ref f)) (b : Binds K fd ps []) (h : FnOk P w K mg base CX k f fd ps sp) : FnC P w K mg base CX k x ps sp := ⟨⟨f, fd, g, F.kp, b, h⟩⟩
theorem mk_mc {CX : CXT} {k : Nat} {m q : Str} {ps : List Str} {sp : Sp} {st : Stmt} {Ho f : Addr} {fd : FuncData} (c : Cls K Ho) (a : PySem.W.findIn K (.ref Ho) m = some (some (.ref f))) (i : PySem.W.isFn K (.ref f) = true) (F : Fun K m q st f fd) (b : Binds K fd ps []) (h : FnOk P w K mg base CX k f fd ps sp) : MthC P w K mg base CX k Ho m ps sp := ⟨⟨f, fd, c, ⟨a, i, F.kp⟩, b, h⟩⟩
theorem mk_mk {CX : CXT} {k : Nat} {x : Str} {ps : List Str} {sp : Sp} {C f : Addr} {fd : FuncData} (m : PySem.W.makesIn K C = true) (a : PySem.W.findIn K (.ref C) "__init__" = some (some (.ref f))) (i : PySem.W.isFn K (.ref f) = true) (kc : PySem.W.keepIn K (.ref C) = true) (g : mg x = some (.ref C)) (b : Binds K fd ps []) (h : FnOk P w K mg base CX k f fd ps sp) : MkC P w K mg base CX k x C ps sp := ⟨⟨f, fd, ⟨m, a, i, kc⟩, g, b, h⟩⟩
theorem exm_self {S : Addr} (h1 : PySem.W.subIn K (.ref S) (.type "BaseException") = some true) (h2 : PySem.W.isClsIn K S = true) (h3 : PySem.W.typeIn K (.ref S) = some (.type "type")) (h4 : PySem.W.subIn K (.ref S) (.ref S) = some true) :
    PySem.W.exmOne K (.ref S) (.ref S) = some true := by
  have e1 : (PySem.W.subIn K (.ref S) (.type "BaseException") == some true) = true := by rw [h1] <;> rfl
  have e2 : ((PySem.W.clsIn K S).isSome && PySem.W.typeIn K (.ref S) == some (.type "type")) = true := by
    have h2' : (PySem.W.clsIn K S).isSome = true := h2
    rw [h2', h3] <;> rfl
  show (if (PySem.W.subIn K (.ref S) (.type "BaseException") == some true) = true then (if ((PySem.W.clsIn K S).isSome && PySem.W.typeIn K (.ref S) == some (.type "type")) = true then PySem.W.subIn K (.ref S) (.ref S) else none) else none) = some true
  rw [if_pos e1, if_pos e2]
  exact h4
/-- the program's text, as the top has written it, keeps the promise of answers -/
theorem all_mk {h : Heap} {fa : Addr} {C fI G L Ho aN aR f_symbol_ends f_passed f_rule_ends f_fill_place f_ends_of f_comings f_children f_beneath f_reached f_has_ring f_first_parts f_first_root f_first_term f_said f_hole_number f_hole_nonterminal f_is_hole f_check_place f_holes_in f_with_holes f_text_term f_pattern_term f_rewriting_of f_nodes_of f_stops_of f_Laid_init f_laid_out f_bytes_of f_part_of f_matched f_filled f_holes_at f_replaced f_first_going f_run_of f_symbol_at f_Grammar_init f_rule_at f_grammar_of f_Holder_init f_Holder_hold f_Holder_held_term f_Holder_held_laid f_Holder_rewriting f_Holder_holes_of f_Holder_told_term f_Holder_told_bytes f_Holder_go_back f_Holder_drop_rule f_Holder_load f_Holder_read_text f_Holder_put_rule f_Holder_told_rules f_Holder_told_places f_Holder_told_binds f_Holder_do_step f_Holder_do_at f_Holder_do_run f_says f_Holder_told_faithful f_changed f_looked f_stepped f_answered f_call_at f_answers : Addr} (X : K.In h) (Gn : h.Ns mainGlobals mg) (hfa : mg "answers" = some (.ref fa))
    {nm q : Str} {N : Addr} {bs : List Value} {sn : List Str} {sub : List Value} {ab : Bool} {col : Option Bool} {dd : Option Addr} {m0 m1 m2 m3 m5 : Option Value}
    {od1 an1 dN dR : Option Addr} {sl1 slN slR : Array (Option Value)} {oc1 dc1 pm1 cd1 ct1 : Value} {zN zR : Nat} {p1 p2 q1 q2 q3 q4 : Pos} {t_NONTERMINAL t_RANGE t_NO_HOLE t_MOST_NONTERMINALS t_MOST_RULES t_MOST_SYMBOLS t_MOST_BYTE t_MOST_TERM t_FIRST_HOLE t_MOST_SIGNS t_FIRST_SIGN t_HOLE_STEP t_MOST_HOLE t_MOST_REWRITINGS t_MOST_BEFORE t_MOST_STEPS n0 n1 n2 n3 n4 n5 n6 n7 n8 n9 n10 n11 n12 n13 r0 r1 r2 r3 r4 r5 r6 r7 r8 r9 r10 r11 r12 r13 : Tok}
    (aC : PySem.W.nsIn K mainGlobals "Refused" = some (some (.ref C)))
    (xL : K.lookup C = some (excClassObj nm q C N bs [.type "ValueError", .type "Exception", .type "BaseException", .type "object"] true sn sub ab col dd m0 m1 m2 m3 m5 "ValueError.__new__"))
    (sa : PySem.W.findIn K (.ref C) "__setattr__" = some (some (.builtin "object.__setattr__")))
    (ga : PySem.W.findIn K (.ref C) "__getattribute__" = some (some (.builtin "BaseException.__getattribute__")))
    (gg : PySem.W.findIn K (.ref C) "__getattr__" = some none)
    (nb : PySem.W.findIn K (.ref C) "number" = some none)
    (a1 : PySem.W.findIn K (.ref C) "__init__" = some (some (.ref fI)))
    (t1 : PySem.W.typeIn K (.ref fI) = some (.type "function"))
    (l1 : K.lookup fI = some ⟨oc1, od1, .func (PySem.W.fnOf "__init__" "Refused.__init__" (PySem.RfX.iA p1 p2) (PySem.RfX.iB q1 q2 q3 q4) PySem.RfX.iS .none .none dc1 pm1 an1 cd1 ct1), sl1⟩)
    (c1 : PySem.W.codeIn K cd1 "Refused.__init__" = true)
    (kC : PySem.W.keepIn K (.ref C) = true)
    (eC : PySem.W.subIn K (.ref C) (.type "BaseException") = some true)
    (tC : PySem.W.typeIn K (.ref C) = some (.type "type"))
    (hC : PySem.W.hasDictIn K C = true)
    (iC : PySem.W.isClsIn K C = true)
    (sC : PySem.W.subIn K (.ref C) (.ref C) = some true)
    (g_G : PySem.W.nsIn K mainGlobals "Grammar" = some (some (.ref G)))
    (pg_G : PySem.W.plainGet K G Str.empty = true)
    (hd_G : PySem.W.hasDictIn K G = true)
    (po_G : PySem.W.plainOver K G = true)
    (sa_G : PySem.W.findIn K (.ref G) "__setattr__" = some (some (.builtin "object.__setattr__")))
    (mk_G : PySem.W.makesIn K G = true)
    (kc_G : PySem.W.keepIn K (.ref G) = true)
    (n_G_many : PySem.W.findIn K (.ref G) "many" = some none)
    (n_G_rules : PySem.W.findIn K (.ref G) "rules" = some none)
    (g_L : PySem.W.nsIn K mainGlobals "Laid" = some (some (.ref L)))
    (pg_L : PySem.W.plainGet K L Str.empty = true)
    (hd_L : PySem.W.hasDictIn K L = true)
    (po_L : PySem.W.plainOver K L = true)
    (sa_L : PySem.W.findIn K (.ref L) "__setattr__" = some (some (.builtin "object.__setattr__")))
    (mk_L : PySem.W.makesIn K L = true)
    (kc_L : PySem.W.keepIn K (.ref L) = true)
    (n_L_numbers : PySem.W.findIn K (.ref L) "numbers" = some none)
    (n_L_nodes : PySem.W.findIn K (.ref L) "nodes" = some none)
    (n_L_stops : PySem.W.findIn K (.ref L) "stops" = some none)
    (g_Ho : PySem.W.nsIn K mainGlobals "Holder" = some (some (.ref Ho)))
    (pg_Ho : PySem.W.plainGet K Ho Str.empty = true)
    (hd_Ho : PySem.W.hasDictIn K Ho = true)
    (po_Ho : PySem.W.plainOver K Ho = true)
    (sa_Ho : PySem.W.findIn K (.ref Ho) "__setattr__" = some (some (.builtin "object.__setattr__")))
    (mk_Ho : PySem.W.makesIn K Ho = true)
    (kc_Ho : PySem.W.keepIn K (.ref Ho) = true)
    (n_Ho_grammar : PySem.W.findIn K (.ref Ho) "grammar" = some none)
    (n_Ho_rewritings : PySem.W.findIn K (.ref Ho) "rewritings" = some none)
    (n_Ho_held : PySem.W.findIn K (.ref Ho) "held" = some none)
    (n_Ho_before : PySem.W.findIn K (.ref Ho) "before" = some none)
    (n_G_hold : PySem.W.findIn K (.ref G) "hold" = some none)
    (z_any : PySem.W.nsIn K mainGlobals "any" = some none)
    (z_all : PySem.W.nsIn K mainGlobals "all" = some none)
    (z_enumerate : PySem.W.nsIn K mainGlobals "enumerate" = some none)
    (z_int : PySem.W.nsIn K mainGlobals "int" = some none)
    (z_len : PySem.W.nsIn K mainGlobals "len" = some none)
    (z_min : PySem.W.nsIn K mainGlobals "min" = some none)
    (z_range : PySem.W.nsIn K mainGlobals "range" = some none)
    (z_reversed : PySem.W.nsIn K mainGlobals "reversed" = some none)
    (z_set : PySem.W.nsIn K mainGlobals "set" = some none)
    (z_sorted : PySem.W.nsIn K mainGlobals "sorted" = some none)
    (z_sum : PySem.W.nsIn K mainGlobals "sum" = some none)
    (z_zip : PySem.W.nsIn K mainGlobals "zip" = some none)
    (c_NONTERMINAL : PySem.W.nsIn K mainGlobals "NONTERMINAL" = some (some (.int 0 t_NONTERMINAL)))
    (c_RANGE : PySem.W.nsIn K mainGlobals "RANGE" = some (some (.int 1 t_RANGE)))
    (c_NO_HOLE : PySem.W.nsIn K mainGlobals "NO_HOLE" = some (some (.int (-1) t_NO_HOLE)))
    (c_MOST_NONTERMINALS : PySem.W.nsIn K mainGlobals "MOST_NONTERMINALS" = some (some (.int 20 t_MOST_NONTERMINALS)))
    (c_MOST_RULES : PySem.W.nsIn K mainGlobals "MOST_RULES" = some (some (.int 60 t_MOST_RULES)))
    (c_MOST_SYMBOLS : PySem.W.nsIn K mainGlobals "MOST_SYMBOLS" = some (some (.int 8 t_MOST_SYMBOLS)))
    (c_MOST_BYTE : PySem.W.nsIn K mainGlobals "MOST_BYTE" = some (some (.int 255 t_MOST_BYTE)))
    (c_MOST_TERM : PySem.W.nsIn K mainGlobals "MOST_TERM" = some (some (.int 400 t_MOST_TERM)))
    (c_FIRST_HOLE : PySem.W.nsIn K mainGlobals "FIRST_HOLE" = some (some (.int 1000 t_FIRST_HOLE)))
    (c_MOST_SIGNS : PySem.W.nsIn K mainGlobals "MOST_SIGNS" = some (some (.int 24 t_MOST_SIGNS)))
    (c_FIRST_SIGN : PySem.W.nsIn K mainGlobals "FIRST_SIGN" = some (some (.int 256 t_FIRST_SIGN)))
    (c_HOLE_STEP : PySem.W.nsIn K mainGlobals "HOLE_STEP" = some (some (.int 32 t_HOLE_STEP)))
    (c_MOST_HOLE : PySem.W.nsIn K mainGlobals "MOST_HOLE" = some (some (.int 9 t_MOST_HOLE)))
    (c_MOST_REWRITINGS : PySem.W.nsIn K mainGlobals "MOST_REWRITINGS" = some (some (.int 16 t_MOST_REWRITINGS)))
    (c_MOST_BEFORE : PySem.W.nsIn K mainGlobals "MOST_BEFORE" = some (some (.int 16 t_MOST_BEFORE)))
    (c_MOST_STEPS : PySem.W.nsIn K mainGlobals "MOST_STEPS" = some (some (.int 100 t_MOST_STEPS)))
    (aNu : PySem.W.nsIn K mainGlobals "NUMBERS" = some (some (.ref aN)))
    (lNu : K.lookup aN = some ⟨.type "tuple", dN, .seq #[.int 0 n0, .int 1 n1, .int 1 n2, .int 0 n3, .int 0 n4, .int 0 n5, .int 0 n6, .int 1 n7, .int 2 n8, .int 0 n9, .int 2 n10, .int 1 n11, .int 0 n12, .int 0 n13] zN, slN⟩)
    (aRo : PySem.W.nsIn K mainGlobals "ROWS" = some (some (.ref aR)))
    (lRo : K.lookup aR = some ⟨.type "tuple", dR, .seq #[.int 1 r0, .int 1 r1, .int 2 r2, .int 0 r3, .int 0 r4, .int 0 r5, .int 0 r6, .int 0 r7, .int 0 r8, .int 0 r9, .int 0 r10, .int 0 r11, .int 0 r12, .int 0 r13] zR, slR⟩)
    (a_symbol_ends : PySem.W.nsIn K mainGlobals "symbol_ends" = some (some (.ref f_symbol_ends)))
    (F_symbol_ends : ∃ fd, Fun K "symbol_ends" "symbol_ends" s_symbol_ends f_symbol_ends fd)
    (a_passed : PySem.W.nsIn K mainGlobals "passed" = some (some (.ref f_passed)))
    (F_passed : ∃ fd, Fun K "passed" "passed" s_passed f_passed fd)
    (a_rule_ends : PySem.W.nsIn K mainGlobals "rule_ends" = some (some (.ref f_rule_ends)))
    (F_rule_ends : ∃ fd, Fun K "rule_ends" "rule_ends" s_rule_ends f_rule_ends fd)
    (a_fill_place : PySem.W.nsIn K mainGlobals "fill_place" = some (some (.ref f_fill_place)))
    (F_fill_place : ∃ fd, Fun K "fill_place" "fill_place" s_fill_place f_fill_place fd)
    (a_ends_of : PySem.W.nsIn K mainGlobals "ends_of" = some (some (.ref f_ends_of)))
    (F_ends_of : ∃ fd, Fun K "ends_of" "ends_of" s_ends_of f_ends_of fd)
    (a_comings : PySem.W.nsIn K mainGlobals "comings" = some (some (.ref f_comings)))
    (F_comings : ∃ fd, Fun K "comings" "comings" s_comings f_comings fd)
    (a_children : PySem.W.nsIn K mainGlobals "children" = some (some (.ref f_children)))
    (F_children : ∃ fd, Fun K "children" "children" s_children f_children fd)
    (a_beneath : PySem.W.nsIn K mainGlobals "beneath" = some (some (.ref f_beneath)))
    (F_beneath : ∃ fd, Fun K "beneath" "beneath" s_beneath f_beneath fd)
    (a_reached : PySem.W.nsIn K mainGlobals "reached" = some (some (.ref f_reached)))
    (F_reached : ∃ fd, Fun K "reached" "reached" s_reached f_reached fd)
    (a_has_ring : PySem.W.nsIn K mainGlobals "has_ring" = some (some (.ref f_has_ring)))
    (F_has_ring : ∃ fd, Fun K "has_ring" "has_ring" s_has_ring f_has_ring fd)
    (a_first_parts : PySem.W.nsIn K mainGlobals "first_parts" = some (some (.ref f_first_parts)))
    (F_first_parts : ∃ fd, Fun K "first_parts" "first_parts" s_first_parts f_first_parts fd)
    (a_first_root : PySem.W.nsIn K mainGlobals "first_root" = some (some (.ref f_first_root)))
    (F_first_root : ∃ fd, Fun K "first_root" "first_root" s_first_root f_first_root fd)
    (a_first_term : PySem.W.nsIn K mainGlobals "first_term" = some (some (.ref f_first_term)))
    (F_first_term : ∃ fd, Fun K "first_term" "first_term" s_first_term f_first_term fd)
    (a_said : PySem.W.nsIn K mainGlobals "said" = some (some (.ref f_said)))
    (F_said : ∃ fd, Fun K "said" "said" s_said f_said fd)
    (a_hole_number : PySem.W.nsIn K mainGlobals "hole_number" = some (some (.ref f_hole_number)))
    (F_hole_number : ∃ fd, Fun K "hole_number" "hole_number" s_hole_number f_hole_number fd)
    (a_hole_nonterminal : PySem.W.nsIn K mainGlobals "hole_nonterminal" = some (some (.ref f_hole_nonterminal)))
    (F_hole_nonterminal : ∃ fd, Fun K "hole_nonterminal" "hole_nonterminal" s_hole_nonterminal f_hole_nonterminal fd)
    (a_is_hole : PySem.W.nsIn K mainGlobals "is_hole" = some (some (.ref f_is_hole)))
    (F_is_hole : ∃ fd, Fun K "is_hole" "is_hole" s_is_hole f_is_hole fd)
    (a_check_place : PySem.W.nsIn K mainGlobals "check_place" = some (some (.ref f_check_place)))
    (F_check_place : ∃ fd, Fun K "check_place" "check_place" s_check_place f_check_place fd)
    (a_holes_in : PySem.W.nsIn K mainGlobals "holes_in" = some (some (.ref f_holes_in)))
    (F_holes_in : ∃ fd, Fun K "holes_in" "holes_in" s_holes_in f_holes_in fd)
    (a_with_holes : PySem.W.nsIn K mainGlobals "with_holes" = some (some (.ref f_with_holes)))
    (F_with_holes : ∃ fd, Fun K "with_holes" "with_holes" s_with_holes f_with_holes fd)
    (a_text_term : PySem.W.nsIn K mainGlobals "text_term" = some (some (.ref f_text_term)))
    (F_text_term : ∃ fd, Fun K "text_term" "text_term" s_text_term f_text_term fd)
    (a_pattern_term : PySem.W.nsIn K mainGlobals "pattern_term" = some (some (.ref f_pattern_term)))
    (F_pattern_term : ∃ fd, Fun K "pattern_term" "pattern_term" s_pattern_term f_pattern_term fd)
    (a_rewriting_of : PySem.W.nsIn K mainGlobals "rewriting_of" = some (some (.ref f_rewriting_of)))
    (F_rewriting_of : ∃ fd, Fun K "rewriting_of" "rewriting_of" s_rewriting_of f_rewriting_of fd)
    (a_nodes_of : PySem.W.nsIn K mainGlobals "nodes_of" = some (some (.ref f_nodes_of)))
    (F_nodes_of : ∃ fd, Fun K "nodes_of" "nodes_of" s_nodes_of f_nodes_of fd)
    (a_stops_of : PySem.W.nsIn K mainGlobals "stops_of" = some (some (.ref f_stops_of)))
    (F_stops_of : ∃ fd, Fun K "stops_of" "stops_of" s_stops_of f_stops_of fd)
    (a_Laid_init : PySem.W.findIn K (.ref L) "__init__" = some (some (.ref f_Laid_init)))
    (i_Laid_init : PySem.W.isFn K (.ref f_Laid_init) = true)
    (F_Laid_init : ∃ fd, Fun K "__init__" "Laid.__init__" s_Laid_init f_Laid_init fd)
    (a_laid_out : PySem.W.nsIn K mainGlobals "laid_out" = some (some (.ref f_laid_out)))
    (F_laid_out : ∃ fd, Fun K "laid_out" "laid_out" s_laid_out f_laid_out fd)
    (a_bytes_of : PySem.W.nsIn K mainGlobals "bytes_of" = some (some (.ref f_bytes_of)))
    (F_bytes_of : ∃ fd, Fun K "bytes_of" "bytes_of" s_bytes_of f_bytes_of fd)
    (a_part_of : PySem.W.nsIn K mainGlobals "part_of" = some (some (.ref f_part_of)))
    (F_part_of : ∃ fd, Fun K "part_of" "part_of" s_part_of f_part_of fd)
    (a_matched : PySem.W.nsIn K mainGlobals "matched" = some (some (.ref f_matched)))
    (F_matched : ∃ fd, Fun K "matched" "matched" s_matched f_matched fd)
    (a_filled : PySem.W.nsIn K mainGlobals "filled" = some (some (.ref f_filled)))
    (F_filled : ∃ fd, Fun K "filled" "filled" s_filled f_filled fd)
    (a_holes_at : PySem.W.nsIn K mainGlobals "holes_at" = some (some (.ref f_holes_at)))
    (F_holes_at : ∃ fd, Fun K "holes_at" "holes_at" s_holes_at f_holes_at fd)
    (a_replaced : PySem.W.nsIn K mainGlobals "replaced" = some (some (.ref f_replaced)))
    (F_replaced : ∃ fd, Fun K "replaced" "replaced" s_replaced f_replaced fd)
    (a_first_going : PySem.W.nsIn K mainGlobals "first_going" = some (some (.ref f_first_going)))
    (F_first_going : ∃ fd, Fun K "first_going" "first_going" s_first_going f_first_going fd)
    (a_run_of : PySem.W.nsIn K mainGlobals "run_of" = some (some (.ref f_run_of)))
    (F_run_of : ∃ fd, Fun K "run_of" "run_of" s_run_of f_run_of fd)
    (a_symbol_at : PySem.W.nsIn K mainGlobals "symbol_at" = some (some (.ref f_symbol_at)))
    (F_symbol_at : ∃ fd, Fun K "symbol_at" "symbol_at" s_symbol_at f_symbol_at fd)
    (a_Grammar_init : PySem.W.findIn K (.ref G) "__init__" = some (some (.ref f_Grammar_init)))
    (i_Grammar_init : PySem.W.isFn K (.ref f_Grammar_init) = true)
    (F_Grammar_init : ∃ fd, Fun K "__init__" "Grammar.__init__" s_Grammar_init f_Grammar_init fd)
    (a_rule_at : PySem.W.nsIn K mainGlobals "rule_at" = some (some (.ref f_rule_at)))
    (F_rule_at : ∃ fd, Fun K "rule_at" "rule_at" s_rule_at f_rule_at fd)
    (a_grammar_of : PySem.W.nsIn K mainGlobals "grammar_of" = some (some (.ref f_grammar_of)))
    (F_grammar_of : ∃ fd, Fun K "grammar_of" "grammar_of" s_grammar_of f_grammar_of fd)
    (a_Holder_init : PySem.W.findIn K (.ref Ho) "__init__" = some (some (.ref f_Holder_init)))
    (i_Holder_init : PySem.W.isFn K (.ref f_Holder_init) = true)
    (F_Holder_init : ∃ fd, Fun K "__init__" "Holder.__init__" s_Holder_init f_Holder_init fd)
    (a_Holder_hold : PySem.W.findIn K (.ref Ho) "hold" = some (some (.ref f_Holder_hold)))
    (i_Holder_hold : PySem.W.isFn K (.ref f_Holder_hold) = true)
    (F_Holder_hold : ∃ fd, Fun K "hold" "Holder.hold" s_Holder_hold f_Holder_hold fd)
    (a_Holder_held_term : PySem.W.findIn K (.ref Ho) "held_term" = some (some (.ref f_Holder_held_term)))
    (i_Holder_held_term : PySem.W.isFn K (.ref f_Holder_held_term) = true)
    (F_Holder_held_term : ∃ fd, Fun K "held_term" "Holder.held_term" s_Holder_held_term f_Holder_held_term fd)
    (a_Holder_held_laid : PySem.W.findIn K (.ref Ho) "held_laid" = some (some (.ref f_Holder_held_laid)))
    (i_Holder_held_laid : PySem.W.isFn K (.ref f_Holder_held_laid) = true)
    (F_Holder_held_laid : ∃ fd, Fun K "held_laid" "Holder.held_laid" s_Holder_held_laid f_Holder_held_laid fd)
    (a_Holder_rewriting : PySem.W.findIn K (.ref Ho) "rewriting" = some (some (.ref f_Holder_rewriting)))
    (i_Holder_rewriting : PySem.W.isFn K (.ref f_Holder_rewriting) = true)
    (F_Holder_rewriting : ∃ fd, Fun K "rewriting" "Holder.rewriting" s_Holder_rewriting f_Holder_rewriting fd)
    (a_Holder_holes_of : PySem.W.findIn K (.ref Ho) "holes_of" = some (some (.ref f_Holder_holes_of)))
    (i_Holder_holes_of : PySem.W.isFn K (.ref f_Holder_holes_of) = true)
    (F_Holder_holes_of : ∃ fd, Fun K "holes_of" "Holder.holes_of" s_Holder_holes_of f_Holder_holes_of fd)
    (a_Holder_told_term : PySem.W.findIn K (.ref Ho) "told_term" = some (some (.ref f_Holder_told_term)))
    (i_Holder_told_term : PySem.W.isFn K (.ref f_Holder_told_term) = true)
    (F_Holder_told_term : ∃ fd, Fun K "told_term" "Holder.told_term" s_Holder_told_term f_Holder_told_term fd)
    (a_Holder_told_bytes : PySem.W.findIn K (.ref Ho) "told_bytes" = some (some (.ref f_Holder_told_bytes)))
    (i_Holder_told_bytes : PySem.W.isFn K (.ref f_Holder_told_bytes) = true)
    (F_Holder_told_bytes : ∃ fd, Fun K "told_bytes" "Holder.told_bytes" s_Holder_told_bytes f_Holder_told_bytes fd)
    (a_Holder_go_back : PySem.W.findIn K (.ref Ho) "go_back" = some (some (.ref f_Holder_go_back)))
    (i_Holder_go_back : PySem.W.isFn K (.ref f_Holder_go_back) = true)
    (F_Holder_go_back : ∃ fd, Fun K "go_back" "Holder.go_back" s_Holder_go_back f_Holder_go_back fd)
    (a_Holder_drop_rule : PySem.W.findIn K (.ref Ho) "drop_rule" = some (some (.ref f_Holder_drop_rule)))
    (i_Holder_drop_rule : PySem.W.isFn K (.ref f_Holder_drop_rule) = true)
    (F_Holder_drop_rule : ∃ fd, Fun K "drop_rule" "Holder.drop_rule" s_Holder_drop_rule f_Holder_drop_rule fd)
    (a_Holder_load : PySem.W.findIn K (.ref Ho) "load" = some (some (.ref f_Holder_load)))
    (i_Holder_load : PySem.W.isFn K (.ref f_Holder_load) = true)
    (F_Holder_load : ∃ fd, Fun K "load" "Holder.load" s_Holder_load f_Holder_load fd)
    (a_Holder_read_text : PySem.W.findIn K (.ref Ho) "read_text" = some (some (.ref f_Holder_read_text)))
    (i_Holder_read_text : PySem.W.isFn K (.ref f_Holder_read_text) = true)
    (F_Holder_read_text : ∃ fd, Fun K "read_text" "Holder.read_text" s_Holder_read_text f_Holder_read_text fd)
    (a_Holder_put_rule : PySem.W.findIn K (.ref Ho) "put_rule" = some (some (.ref f_Holder_put_rule)))
    (i_Holder_put_rule : PySem.W.isFn K (.ref f_Holder_put_rule) = true)
    (F_Holder_put_rule : ∃ fd, Fun K "put_rule" "Holder.put_rule" s_Holder_put_rule f_Holder_put_rule fd)
    (a_Holder_told_rules : PySem.W.findIn K (.ref Ho) "told_rules" = some (some (.ref f_Holder_told_rules)))
    (i_Holder_told_rules : PySem.W.isFn K (.ref f_Holder_told_rules) = true)
    (F_Holder_told_rules : ∃ fd, Fun K "told_rules" "Holder.told_rules" s_Holder_told_rules f_Holder_told_rules fd)
    (a_Holder_told_places : PySem.W.findIn K (.ref Ho) "told_places" = some (some (.ref f_Holder_told_places)))
    (i_Holder_told_places : PySem.W.isFn K (.ref f_Holder_told_places) = true)
    (F_Holder_told_places : ∃ fd, Fun K "told_places" "Holder.told_places" s_Holder_told_places f_Holder_told_places fd)
    (a_Holder_told_binds : PySem.W.findIn K (.ref Ho) "told_binds" = some (some (.ref f_Holder_told_binds)))
    (i_Holder_told_binds : PySem.W.isFn K (.ref f_Holder_told_binds) = true)
    (F_Holder_told_binds : ∃ fd, Fun K "told_binds" "Holder.told_binds" s_Holder_told_binds f_Holder_told_binds fd)
    (a_Holder_do_step : PySem.W.findIn K (.ref Ho) "do_step" = some (some (.ref f_Holder_do_step)))
    (i_Holder_do_step : PySem.W.isFn K (.ref f_Holder_do_step) = true)
    (F_Holder_do_step : ∃ fd, Fun K "do_step" "Holder.do_step" s_Holder_do_step f_Holder_do_step fd)
    (a_Holder_do_at : PySem.W.findIn K (.ref Ho) "do_at" = some (some (.ref f_Holder_do_at)))
    (i_Holder_do_at : PySem.W.isFn K (.ref f_Holder_do_at) = true)
    (F_Holder_do_at : ∃ fd, Fun K "do_at" "Holder.do_at" s_Holder_do_at f_Holder_do_at fd)
    (a_Holder_do_run : PySem.W.findIn K (.ref Ho) "do_run" = some (some (.ref f_Holder_do_run)))
    (i_Holder_do_run : PySem.W.isFn K (.ref f_Holder_do_run) = true)
    (F_Holder_do_run : ∃ fd, Fun K "do_run" "Holder.do_run" s_Holder_do_run f_Holder_do_run fd)
    (a_says : PySem.W.nsIn K mainGlobals "says" = some (some (.ref f_says)))
    (F_says : ∃ fd, Fun K "says" "says" s_says f_says fd)
    (a_Holder_told_faithful : PySem.W.findIn K (.ref Ho) "told_faithful" = some (some (.ref f_Holder_told_faithful)))
    (i_Holder_told_faithful : PySem.W.isFn K (.ref f_Holder_told_faithful) = true)
    (F_Holder_told_faithful : ∃ fd, Fun K "told_faithful" "Holder.told_faithful" s_Holder_told_faithful f_Holder_told_faithful fd)
    (a_changed : PySem.W.nsIn K mainGlobals "changed" = some (some (.ref f_changed)))
    (F_changed : ∃ fd, Fun K "changed" "changed" s_changed f_changed fd)
    (a_looked : PySem.W.nsIn K mainGlobals "looked" = some (some (.ref f_looked)))
    (F_looked : ∃ fd, Fun K "looked" "looked" s_looked f_looked fd)
    (a_stepped : PySem.W.nsIn K mainGlobals "stepped" = some (some (.ref f_stepped)))
    (F_stepped : ∃ fd, Fun K "stepped" "stepped" s_stepped f_stepped fd)
    (a_answered : PySem.W.nsIn K mainGlobals "answered" = some (some (.ref f_answered)))
    (F_answered : ∃ fd, Fun K "answered" "answered" s_answered f_answered fd)
    (a_call_at : PySem.W.nsIn K mainGlobals "call_at" = some (some (.ref f_call_at)))
    (F_call_at : ∃ fd, Fun K "call_at" "call_at" s_call_at f_call_at fd)
    (a_answers : PySem.W.nsIn K mainGlobals "answers" = some (some (.ref f_answers)))
    (F_answers : ∃ fd, Fun K "answers" "answers" s_answers f_answers fd) :
    ∃ fd : FuncData, (∀ (s : Shared) (us : List Value), us.length = (["calls"] : List Str).length → BindsTo s fd ⟨us, []⟩ ((["calls"] : List Str).zip us)) ∧ ∀ base : Heap, K.In base → base.Ns mainGlobals mg → FnOk P w K mg base CX0 12 fa fd ["calls"] (sp_answers K) := by
  have e := hfa.symm.trans (PySem.W.mg_of X Gn a_answers)
  cases e
  have Rf : PySem.RfX.RfTxt K mg C fI :=
    { gC := PySem.W.mg_of X Gn aC, cls := ⟨nm, q, N, bs, _, sn, sub, ab, col, dd, m0, m1, m2, m3, m5, xL, by decide +kernel⟩, sa := sa, ga := ga, gg := gg, noN := nb, iC := a1, tC := t1, kC := kC, exC := eC, tyC := tC, hdC := hC, te := exm_self eC iC tC sC,
      fn := ⟨_, _, _, _, _, _, _, _, _, _, _, _, _, _, l1, c1⟩ }
  have T : Glob mg := { any := PySem.W.mg_none_of X Gn z_any, all := PySem.W.mg_none_of X Gn z_all, enumerate := PySem.W.mg_none_of X Gn z_enumerate, int := PySem.W.mg_none_of X Gn z_int, len := PySem.W.mg_none_of X Gn z_len, min := PySem.W.mg_none_of X Gn z_min, range := PySem.W.mg_none_of X Gn z_range, reversed := PySem.W.mg_none_of X Gn z_reversed, set := PySem.W.mg_none_of X Gn z_set, sorted := PySem.W.mg_none_of X Gn z_sorted, sum := PySem.W.mg_none_of X Gn z_sum, zip := PySem.W.mg_none_of X Gn z_zip, NONTERMINAL := ⟨_, PySem.W.mg_of X Gn c_NONTERMINAL⟩, RANGE := ⟨_, PySem.W.mg_of X Gn c_RANGE⟩, NO_HOLE := ⟨_, PySem.W.mg_of X Gn c_NO_HOLE⟩, MOST_NONTERMINALS := ⟨_, PySem.W.mg_of X Gn c_MOST_NONTERMINALS⟩, MOST_RULES := ⟨_, PySem.W.mg_of X Gn c_MOST_RULES⟩, MOST_SYMBOLS := ⟨_, PySem.W.mg_of X Gn c_MOST_SYMBOLS⟩, MOST_BYTE := ⟨_, PySem.W.mg_of X Gn c_MOST_BYTE⟩, MOST_TERM := ⟨_, PySem.W.mg_of X Gn c_MOST_TERM⟩, FIRST_HOLE := ⟨_, PySem.W.mg_of X Gn c_FIRST_HOLE⟩, MOST_SIGNS := ⟨_, PySem.W.mg_of X Gn c_MOST_SIGNS⟩, FIRST_SIGN := ⟨_, PySem.W.mg_of X Gn c_FIRST_SIGN⟩, HOLE_STEP := ⟨_, PySem.W.mg_of X Gn c_HOLE_STEP⟩, MOST_HOLE := ⟨_, PySem.W.mg_of X Gn c_MOST_HOLE⟩, MOST_REWRITINGS := ⟨_, PySem.W.mg_of X Gn c_MOST_REWRITINGS⟩, MOST_BEFORE := ⟨_, PySem.W.mg_of X Gn c_MOST_BEFORE⟩, MOST_STEPS := ⟨_, PySem.W.mg_of X Gn c_MOST_STEPS⟩ }
  have Gc : GCls K G := ⟨⟨pg_G, hd_G, po_G, sa_G⟩, n_G_many, n_G_rules⟩
  have Lc : LCls K L := ⟨⟨pg_L, hd_L, po_L, sa_L⟩, n_L_numbers, n_L_nodes, n_L_stops⟩
  have Hc : HCls K Ho := ⟨⟨pg_Ho, hd_Ho, po_Ho, sa_Ho⟩, n_Ho_grammar, n_Ho_rewritings, n_Ho_held, n_Ho_before⟩
  have hGH : G ≠ Ho := fun q => by rw [q, a_Holder_hold] at n_G_hold; cases n_G_hold
  have TN : WTup K mg "NUMBERS" numsOf := ⟨aN, PySem.W.mg_of X Gn aNu, fun H => .inr ⟨_, _, _, lNu, rfl, rfl, (show 14 ≤ sizeLine by decide), .cons ⟨_, rfl⟩ (.cons ⟨_, rfl⟩ (.cons ⟨_, rfl⟩ (.cons ⟨_, rfl⟩ (.cons ⟨_, rfl⟩ (.cons ⟨_, rfl⟩ (.cons ⟨_, rfl⟩ (.cons ⟨_, rfl⟩ (.cons ⟨_, rfl⟩ (.cons ⟨_, rfl⟩ (.cons ⟨_, rfl⟩ (.cons ⟨_, rfl⟩ (.cons ⟨_, rfl⟩ (.cons ⟨_, rfl⟩ .nil)))))))))))))⟩⟩
  have TO : WTup K mg "ROWS" rowsOf := ⟨aR, PySem.W.mg_of X Gn aRo, fun H => .inr ⟨_, _, _, lRo, rfl, rfl, (show 14 ≤ sizeLine by decide), .cons ⟨_, rfl⟩ (.cons ⟨_, rfl⟩ (.cons ⟨_, rfl⟩ (.cons ⟨_, rfl⟩ (.cons ⟨_, rfl⟩ (.cons ⟨_, rfl⟩ (.cons ⟨_, rfl⟩ (.cons ⟨_, rfl⟩ (.cons ⟨_, rfl⟩ (.cons ⟨_, rfl⟩ (.cons ⟨_, rfl⟩ (.cons ⟨_, rfl⟩ (.cons ⟨_, rfl⟩ (.cons ⟨_, rfl⟩ .nil)))))))))))))⟩⟩
  obtain ⟨fd_symbol_ends, F_symbol_ends⟩ := F_symbol_ends
  obtain ⟨fd_passed, F_passed⟩ := F_passed
  obtain ⟨fd_rule_ends, F_rule_ends⟩ := F_rule_ends
  obtain ⟨fd_fill_place, F_fill_place⟩ := F_fill_place
  obtain ⟨fd_ends_of, F_ends_of⟩ := F_ends_of
  obtain ⟨fd_comings, F_comings⟩ := F_comings
  obtain ⟨fd_children, F_children⟩ := F_children
  obtain ⟨fd_beneath, F_beneath⟩ := F_beneath
  obtain ⟨fd_reached, F_reached⟩ := F_reached
  obtain ⟨fd_has_ring, F_has_ring⟩ := F_has_ring
  obtain ⟨fd_first_parts, F_first_parts⟩ := F_first_parts
  obtain ⟨fd_first_root, F_first_root⟩ := F_first_root
  obtain ⟨fd_first_term, F_first_term⟩ := F_first_term
  obtain ⟨fd_said, F_said⟩ := F_said
  obtain ⟨fd_hole_number, F_hole_number⟩ := F_hole_number
  obtain ⟨fd_hole_nonterminal, F_hole_nonterminal⟩ := F_hole_nonterminal
  obtain ⟨fd_is_hole, F_is_hole⟩ := F_is_hole
  obtain ⟨fd_check_place, F_check_place⟩ := F_check_place
  obtain ⟨fd_holes_in, F_holes_in⟩ := F_holes_in
  obtain ⟨fd_with_holes, F_with_holes⟩ := F_with_holes
  obtain ⟨fd_text_term, F_text_term⟩ := F_text_term
  obtain ⟨fd_pattern_term, F_pattern_term⟩ := F_pattern_term
  obtain ⟨fd_rewriting_of, F_rewriting_of⟩ := F_rewriting_of
  obtain ⟨fd_nodes_of, F_nodes_of⟩ := F_nodes_of
  obtain ⟨fd_stops_of, F_stops_of⟩ := F_stops_of
  obtain ⟨fd_Laid_init, F_Laid_init⟩ := F_Laid_init
  obtain ⟨fd_laid_out, F_laid_out⟩ := F_laid_out
  obtain ⟨fd_bytes_of, F_bytes_of⟩ := F_bytes_of
  obtain ⟨fd_part_of, F_part_of⟩ := F_part_of
  obtain ⟨fd_matched, F_matched⟩ := F_matched
  obtain ⟨fd_filled, F_filled⟩ := F_filled
  obtain ⟨fd_holes_at, F_holes_at⟩ := F_holes_at
  obtain ⟨fd_replaced, F_replaced⟩ := F_replaced
  obtain ⟨fd_first_going, F_first_going⟩ := F_first_going
  obtain ⟨fd_run_of, F_run_of⟩ := F_run_of
  obtain ⟨fd_symbol_at, F_symbol_at⟩ := F_symbol_at
  obtain ⟨fd_Grammar_init, F_Grammar_init⟩ := F_Grammar_init
  obtain ⟨fd_rule_at, F_rule_at⟩ := F_rule_at
  obtain ⟨fd_grammar_of, F_grammar_of⟩ := F_grammar_of
  obtain ⟨fd_Holder_init, F_Holder_init⟩ := F_Holder_init
  obtain ⟨fd_Holder_hold, F_Holder_hold⟩ := F_Holder_hold
  obtain ⟨fd_Holder_held_term, F_Holder_held_term⟩ := F_Holder_held_term
  obtain ⟨fd_Holder_held_laid, F_Holder_held_laid⟩ := F_Holder_held_laid
  obtain ⟨fd_Holder_rewriting, F_Holder_rewriting⟩ := F_Holder_rewriting
  obtain ⟨fd_Holder_holes_of, F_Holder_holes_of⟩ := F_Holder_holes_of
  obtain ⟨fd_Holder_told_term, F_Holder_told_term⟩ := F_Holder_told_term
  obtain ⟨fd_Holder_told_bytes, F_Holder_told_bytes⟩ := F_Holder_told_bytes
  obtain ⟨fd_Holder_go_back, F_Holder_go_back⟩ := F_Holder_go_back
  obtain ⟨fd_Holder_drop_rule, F_Holder_drop_rule⟩ := F_Holder_drop_rule
  obtain ⟨fd_Holder_load, F_Holder_load⟩ := F_Holder_load
  obtain ⟨fd_Holder_read_text, F_Holder_read_text⟩ := F_Holder_read_text
  obtain ⟨fd_Holder_put_rule, F_Holder_put_rule⟩ := F_Holder_put_rule
  obtain ⟨fd_Holder_told_rules, F_Holder_told_rules⟩ := F_Holder_told_rules
  obtain ⟨fd_Holder_told_places, F_Holder_told_places⟩ := F_Holder_told_places
  obtain ⟨fd_Holder_told_binds, F_Holder_told_binds⟩ := F_Holder_told_binds
  obtain ⟨fd_Holder_do_step, F_Holder_do_step⟩ := F_Holder_do_step
  obtain ⟨fd_Holder_do_at, F_Holder_do_at⟩ := F_Holder_do_at
  obtain ⟨fd_Holder_do_run, F_Holder_do_run⟩ := F_Holder_do_run
  obtain ⟨fd_says, F_says⟩ := F_says
  obtain ⟨fd_Holder_told_faithful, F_Holder_told_faithful⟩ := F_Holder_told_faithful
  obtain ⟨fd_changed, F_changed⟩ := F_changed
  obtain ⟨fd_looked, F_looked⟩ := F_looked
  obtain ⟨fd_stepped, F_stepped⟩ := F_stepped
  obtain ⟨fd_answered, F_answered⟩ := F_answered
  obtain ⟨fd_call_at, F_call_at⟩ := F_call_at
  obtain ⟨fd_answers, F_answers⟩ := F_answers
  refine ⟨fd_answers, ?_, fun base hb0 hg0 => ?_⟩
  · obtain ⟨oc, od, kV, doc, pm, an, cdv, ct, osl, rfl, lk, hcd⟩ := F_answers.ex
    exact fun s us hu => match us, hu with | [_], _ => .of_eq rfl
  have HF_symbol_ends : FnC P w K mg base CX0 1 "symbol_ends" ["ends", "signs", "symbol", "at"] sp_symbol_ends := mk_fc F_symbol_ends (PySem.W.mg_of X Gn a_symbol_ends) (F_symbol_ends.binds (ps := ["ends", "signs", "symbol", "at"]) fun _ _ _ _ _ _ us hl => match us, hl with | [_, _, _, _], _ => rfl) (ok_symbol_ends F_symbol_ends T)
  have HF_passed : FnC P w K mg base CX0 2 "passed" ["ends", "signs", "symbol", "places"] sp_passed := mk_fc F_passed (PySem.W.mg_of X Gn a_passed) (F_passed.binds (ps := ["ends", "signs", "symbol", "places"]) fun _ _ _ _ _ _ us hl => match us, hl with | [_, _, _, _], _ => rfl) (ok_passed (fS := 0) F_passed T HF_symbol_ends)
  have HF_rule_ends : FnC P w K mg base CX0 3 "rule_ends" ["ends", "signs", "symbols", "at"] sp_rule_ends := mk_fc F_rule_ends (PySem.W.mg_of X Gn a_rule_ends) (F_rule_ends.binds (ps := ["ends", "signs", "symbols", "at"]) fun _ _ _ _ _ _ us hl => match us, hl with | [_, _, _, _], _ => rfl) (ok_rule_ends F_rule_ends T HF_passed)
  have HF_fill_place : FnC P w K mg base CX0 4 "fill_place" ["ends", "rules", "signs", "at"] sp_fill_place := mk_fc F_fill_place (PySem.W.mg_of X Gn a_fill_place) (F_fill_place.binds (ps := ["ends", "rules", "signs", "at"]) fun _ _ _ _ _ _ us hl => match us, hl with | [_, _, _, _], _ => rfl) (ok_fill_place F_fill_place T HF_rule_ends)
  have HF_ends_of : FnC P w K mg base CX0 5 "ends_of" ["many", "rules", "signs"] sp_ends_of := mk_fc F_ends_of (PySem.W.mg_of X Gn a_ends_of) (F_ends_of.binds (ps := ["many", "rules", "signs"]) fun _ _ _ _ _ _ us hl => match us, hl with | [_, _, _], _ => rfl) (ok_ends_of F_ends_of T HF_fill_place)
  have HF_comings : FnC P w K mg base CX0 2 "comings" ["ends", "signs", "symbols", "end"] sp_comings := mk_fc F_comings (PySem.W.mg_of X Gn a_comings) (F_comings.binds (ps := ["ends", "signs", "symbols", "end"]) fun _ _ _ _ _ _ us hl => match us, hl with | [_, _, _, _], _ => rfl) (ok_comings F_comings T HF_symbol_ends)
  have HF_children : FnC P w K mg base CX0 3 "children" ["ends", "signs", "symbols", "begin", "end"] sp_children := mk_fc F_children (PySem.W.mg_of X Gn a_children) (F_children.binds (ps := ["ends", "signs", "symbols", "begin", "end"]) fun _ _ _ _ _ _ us hl => match us, hl with | [_, _, _, _, _], _ => rfl) (ok_children F_children T HF_symbol_ends HF_passed HF_comings)
  have HF_beneath : FnC P w K mg base CX0 4 "beneath" ["ends", "signs", "rules", "work"] sp_beneath := mk_fc F_beneath (PySem.W.mg_of X Gn a_beneath) (F_beneath.binds (ps := ["ends", "signs", "rules", "work"]) fun _ _ _ _ _ _ us hl => match us, hl with | [_, _, _, _], _ => rfl) (ok_beneath F_beneath T HF_children)
  have HF_reached : FnC P w K mg base CX0 5 "reached" ["ends", "signs", "rules", "nonterminal"] sp_reached := mk_fc F_reached (PySem.W.mg_of X Gn a_reached) (F_reached.binds (ps := ["ends", "signs", "rules", "nonterminal"]) fun _ _ _ _ _ _ us hl => match us, hl with | [_, _, _, _], _ => rfl) (ok_reached F_reached T HF_beneath)
  have HF_has_ring : FnC P w K mg base CX0 1 "has_ring" ["same", "many"] sp_has_ring := mk_fc F_has_ring (PySem.W.mg_of X Gn a_has_ring) (F_has_ring.binds (ps := ["same", "many"]) fun _ _ _ _ _ _ us hl => match us, hl with | [_, _], _ => rfl) (ok_has_ring F_has_ring T)
  have HF_first_parts : FnC P w K mg base CX0 3 "first_parts" ["ends", "signs", "symbols", "begin", "end"] sp_first_parts := mk_fc F_first_parts (PySem.W.mg_of X Gn a_first_parts) (F_first_parts.binds (ps := ["ends", "signs", "symbols", "begin", "end"]) fun _ _ _ _ _ _ us hl => match us, hl with | [_, _, _, _, _], _ => rfl) (ok_first_parts F_first_parts T HF_symbol_ends HF_comings)
  have HF_first_root : FnC P w K mg base CX0 4 "first_root" ["ends", "signs", "rules", "work"] sp_first_root := mk_fc F_first_root (PySem.W.mg_of X Gn a_first_root) (F_first_root.binds (ps := ["ends", "signs", "rules", "work"]) fun _ _ _ _ _ _ us hl => match us, hl with | [_, _, _, _], _ => rfl) (ok_first_root F_first_root T HF_first_parts)
  have HF_first_term : FnC P w K mg base CX0 5 "first_term" ["ends", "signs", "rules", "nonterminal"] sp_first_term := mk_fc F_first_term (PySem.W.mg_of X Gn a_first_term) (F_first_term.binds (ps := ["ends", "signs", "rules", "nonterminal"]) fun _ _ _ _ _ _ us hl => match us, hl with | [_, _, _, _], _ => rfl) (ok_first_term F_first_term T HF_first_root)
  have HF_said : FnC P w K mg base (L2.CX P w) 6 "said" ["many", "rules", "signs", "nonterminal"] (sp_said C) := mk_fc F_said (PySem.W.mg_of X Gn a_said) (F_said.binds (ps := ["many", "rules", "signs", "nonterminal"]) fun _ _ _ _ _ _ us hl => match us, hl with | [_, _, _, _], _ => rfl) (ok_said F_said T Rf HF_ends_of HF_reached HF_has_ring HF_first_term)
  have HF_hole_number : FnC P w K mg base CX0 1 "hole_number" ["sign"] sp_hole_number := mk_fc F_hole_number (PySem.W.mg_of X Gn a_hole_number) (F_hole_number.binds (ps := ["sign"]) fun _ _ _ _ _ _ us hl => match us, hl with | [_], _ => rfl) (ok_hole_number F_hole_number T)
  have HF_hole_nonterminal : FnC P w K mg base CX0 1 "hole_nonterminal" ["sign"] sp_hole_nonterminal := mk_fc F_hole_nonterminal (PySem.W.mg_of X Gn a_hole_nonterminal) (F_hole_nonterminal.binds (ps := ["sign"]) fun _ _ _ _ _ _ us hl => match us, hl with | [_], _ => rfl) (ok_hole_nonterminal F_hole_nonterminal T)
  have HF_is_hole : FnC P w K mg base CX0 2 "is_hole" ["many", "sign"] sp_is_hole := mk_fc F_is_hole (PySem.W.mg_of X Gn a_is_hole) (F_is_hole.binds (ps := ["many", "sign"]) fun _ _ _ _ _ _ us hl => match us, hl with | [_, _], _ => rfl) (ok_is_hole F_is_hole T HF_hole_number HF_hole_nonterminal)
  have HF_check_place : FnC P w K mg base (L2.CX P w) 2 "check_place" ["many", "signs", "nonterminal"] (sp_check_place C) := mk_fc F_check_place (PySem.W.mg_of X Gn a_check_place) (F_check_place.binds (ps := ["many", "signs", "nonterminal"]) fun _ _ _ _ _ _ us hl => match us, hl with | [_, _, _], _ => rfl) (ok_check_place F_check_place T Rf)
  have HF_holes_in : FnC P w K mg base CX0 1 "holes_in" ["signs"] sp_holes_in := mk_fc F_holes_in (PySem.W.mg_of X Gn a_holes_in) (F_holes_in.binds (ps := ["signs"]) fun _ _ _ _ _ _ us hl => match us, hl with | [_], _ => rfl) (ok_holes_in F_holes_in T)
  have HF_with_holes : FnC P w K mg base CX0 2 "with_holes" ["rules", "signs"] sp_with_holes := mk_fc F_with_holes (PySem.W.mg_of X Gn a_with_holes) (F_with_holes.binds (ps := ["rules", "signs"]) fun _ _ _ _ _ _ us hl => match us, hl with | [_, _], _ => rfl) (ok_with_holes F_with_holes T HF_hole_number HF_hole_nonterminal HF_holes_in)
  have HF_text_term : FnC P w K mg base (L2.CX P w) 7 "text_term" ["grammar", "nonterminal", "signs"] (sp_text_term C G) := mk_fc F_text_term (PySem.W.mg_of X Gn a_text_term) (F_text_term.binds (ps := ["grammar", "nonterminal", "signs"]) fun _ _ _ _ _ _ us hl => match us, hl with | [_, _, _], _ => rfl) (ok_text_term F_text_term T Gc Rf HF_check_place HF_said)
  have HF_pattern_term : FnC P w K mg base (L2.CX P w) 7 "pattern_term" ["grammar", "nonterminal", "signs"] (sp_pattern_term C G) := mk_fc F_pattern_term (PySem.W.mg_of X Gn a_pattern_term) (F_pattern_term.binds (ps := ["grammar", "nonterminal", "signs"]) fun _ _ _ _ _ _ us hl => match us, hl with | [_, _, _], _ => rfl) (ok_pattern_term F_pattern_term T Gc Rf HF_check_place HF_is_hole HF_with_holes HF_said)
  have HF_rewriting_of : FnC P w K mg base (L2.CX P w) 8 "rewriting_of" ["grammar", "nonterminal", "left", "right"] (sp_rewriting_of C G) := mk_fc F_rewriting_of (PySem.W.mg_of X Gn a_rewriting_of) (F_rewriting_of.binds (ps := ["grammar", "nonterminal", "left", "right"]) fun _ _ _ _ _ _ us hl => match us, hl with | [_, _, _, _], _ => rfl) (ok_rewriting_of F_rewriting_of T Rf HF_hole_number HF_holes_in HF_pattern_term)
  have HF_nodes_of : FnC P w K mg base CX0 1 "nodes_of" ["rules", "numbers"] sp_nodes_of := mk_fc F_nodes_of (PySem.W.mg_of X Gn a_nodes_of) (F_nodes_of.binds (ps := ["rules", "numbers"]) fun _ _ _ _ _ _ us hl => match us, hl with | [_, _], _ => rfl) (ok_nodes_of F_nodes_of T)
  have HF_stops_of : FnC P w K mg base CX0 1 "stops_of" ["rules", "numbers", "nodes"] sp_stops_of := mk_fc F_stops_of (PySem.W.mg_of X Gn a_stops_of) (F_stops_of.binds (ps := ["rules", "numbers", "nodes"]) fun _ _ _ _ _ _ us hl => match us, hl with | [_, _, _], _ => rfl) (ok_stops_of F_stops_of T)
  have HM_Laid : MkC P w K mg base CX0 1 "Laid" L ["self", "numbers", "nodes", "stops"] (sp_Laid_init L) := mk_mk mk_L a_Laid_init i_Laid_init kc_L (PySem.W.mg_of X Gn g_L) (F_Laid_init.binds (ps := ["self", "numbers", "nodes", "stops"]) fun _ _ _ _ _ _ us hl => match us, hl with | [_, _, _, _], _ => rfl) (ok_Laid_init F_Laid_init T Lc)
  have HF_laid_out : FnC P w K mg base CX0 3 "laid_out" ["rules", "numbers"] (sp_laid_out L) := mk_fc F_laid_out (PySem.W.mg_of X Gn a_laid_out) (F_laid_out.binds (ps := ["rules", "numbers"]) fun _ _ _ _ _ _ us hl => match us, hl with | [_, _], _ => rfl) (ok_laid_out F_laid_out T HF_nodes_of HF_stops_of HM_Laid)
  have HF_bytes_of : FnC P w K mg base CX0 1 "bytes_of" ["laid"] (sp_bytes_of L) := mk_fc F_bytes_of (PySem.W.mg_of X Gn a_bytes_of) (F_bytes_of.binds (ps := ["laid"]) fun _ _ _ _ _ _ us hl => match us, hl with | [_], _ => rfl) (ok_bytes_of F_bytes_of T Lc)
  have HF_part_of : FnC P w K mg base CX0 1 "part_of" ["holes", "number"] sp_part_of := mk_fc F_part_of (PySem.W.mg_of X Gn a_part_of) (F_part_of.binds (ps := ["holes", "number"]) fun _ _ _ _ _ _ us hl => match us, hl with | [_, _], _ => rfl) (ok_part_of F_part_of T)
  have HF_matched : FnC P w K mg base CX0 2 "matched" ["left", "laid", "at"] (sp_matched L) := mk_fc F_matched (PySem.W.mg_of X Gn a_matched) (F_matched.binds (ps := ["left", "laid", "at"]) fun _ _ _ _ _ _ us hl => match us, hl with | [_, _, _], _ => rfl) (ok_matched F_matched T Lc HF_part_of)
  have HF_filled : FnC P w K mg base CX0 2 "filled" ["right", "holes"] sp_filled := mk_fc F_filled (PySem.W.mg_of X Gn a_filled) (F_filled.binds (ps := ["right", "holes"]) fun _ _ _ _ _ _ us hl => match us, hl with | [_, _], _ => rfl) (ok_filled F_filled T HF_part_of)
  have HF_holes_at : FnC P w K mg base CX0 3 "holes_at" ["rules", "laid", "rewriting", "at"] (sp_holes_at L) := mk_fc F_holes_at (PySem.W.mg_of X Gn a_holes_at) (F_holes_at.binds (ps := ["rules", "laid", "rewriting", "at"]) fun _ _ _ _ _ _ us hl => match us, hl with | [_, _, _, _], _ => rfl) (ok_holes_at F_holes_at T Lc HF_matched)
  have HF_replaced : FnC P w K mg base CX0 3 "replaced" ["laid", "rewriting", "at", "holes"] (sp_replaced L) := mk_fc F_replaced (PySem.W.mg_of X Gn a_replaced) (F_replaced.binds (ps := ["laid", "rewriting", "at", "holes"]) fun _ _ _ _ _ _ us hl => match us, hl with | [_, _, _, _], _ => rfl) (ok_replaced F_replaced T Lc HF_filled)
  have HF_first_going : FnC P w K mg base CX0 4 "first_going" ["rules", "rewritings", "numbers"] sp_first_going := mk_fc F_first_going (PySem.W.mg_of X Gn a_first_going) (F_first_going.binds (ps := ["rules", "rewritings", "numbers"]) fun _ _ _ _ _ _ us hl => match us, hl with | [_, _, _], _ => rfl) (ok_first_going F_first_going T Lc HF_laid_out HF_holes_at HF_replaced)
  have HF_run_of : FnC P w K mg base CX0 5 "run_of" ["rules", "rewritings", "numbers", "most"] sp_run_of := mk_fc F_run_of (PySem.W.mg_of X Gn a_run_of) (F_run_of.binds (ps := ["rules", "rewritings", "numbers", "most"]) fun _ _ _ _ _ _ us hl => match us, hl with | [_, _, _, _], _ => rfl) (ok_run_of F_run_of T HF_first_going)
  have HF_symbol_at : FnC P w K mg base CX0 1 "symbol_at" ["row", "at", "many"] sp_symbol_at := mk_fc F_symbol_at (PySem.W.mg_of X Gn a_symbol_at) (F_symbol_at.binds (ps := ["row", "at", "many"]) fun _ _ _ _ _ _ us hl => match us, hl with | [_, _, _], _ => rfl) (ok_symbol_at F_symbol_at T)
  have HM_Grammar : MkC P w K mg base CX0 1 "Grammar" G ["self", "many", "rules"] (sp_Grammar_init G) := mk_mk mk_G a_Grammar_init i_Grammar_init kc_G (PySem.W.mg_of X Gn g_G) (F_Grammar_init.binds (ps := ["self", "many", "rules"]) fun _ _ _ _ _ _ us hl => match us, hl with | [_, _, _], _ => rfl) (ok_Grammar_init F_Grammar_init T Gc)
  have HF_rule_at : FnC P w K mg base CX0 2 "rule_at" ["row", "at", "many"] sp_rule_at := mk_fc F_rule_at (PySem.W.mg_of X Gn a_rule_at) (F_rule_at.binds (ps := ["row", "at", "many"]) fun _ _ _ _ _ _ us hl => match us, hl with | [_, _, _], _ => rfl) (ok_rule_at F_rule_at T HF_symbol_at)
  have HF_grammar_of : FnC P w K mg base CX0 3 "grammar_of" ["row"] (sp_grammar_of G) := mk_fc F_grammar_of (PySem.W.mg_of X Gn a_grammar_of) (F_grammar_of.binds (ps := ["row"]) fun _ _ _ _ _ _ us hl => match us, hl with | [_], _ => rfl) (ok_grammar_of F_grammar_of T HF_rule_at HM_Grammar)
  have HM_Holder : MkC P w K mg base CX0 3 "Holder" Ho ["self"] (sp_Holder_init G Ho) := mk_mk mk_Ho a_Holder_init i_Holder_init kc_Ho (PySem.W.mg_of X Gn g_Ho) (F_Holder_init.binds (ps := ["self"]) fun _ _ _ _ _ _ us hl => match us, hl with | [_], _ => rfl) (ok_Holder_init F_Holder_init T Hc HM_Grammar)
  have HF_Holder_hold : MthC P w K mg base CX0 1 Ho "hold" ["self", "nonterminal", "term"] (sp_Holder_hold G Ho) := mk_mc Hc.cls a_Holder_hold i_Holder_hold F_Holder_hold (F_Holder_hold.binds (ps := ["self", "nonterminal", "term"]) fun _ _ _ _ _ _ us hl => match us, hl with | [_, _, _], _ => rfl) (ok_Holder_hold F_Holder_hold T Hc)
  have HF_Holder_held_term : MthC P w K mg base (L2.CX P w) 2 Ho "held_term" ["self"] (sp_Holder_held_term C G Ho) := mk_mc Hc.cls a_Holder_held_term i_Holder_held_term F_Holder_held_term (F_Holder_held_term.binds (ps := ["self"]) fun _ _ _ _ _ _ us hl => match us, hl with | [_], _ => rfl) (ok_Holder_held_term F_Holder_held_term T Hc Rf)
  have HF_Holder_held_laid : MthC P w K mg base (L2.CX P w) 4 Ho "held_laid" ["self"] (sp_Holder_held_laid C G Ho L) := mk_mc Hc.cls a_Holder_held_laid i_Holder_held_laid F_Holder_held_laid (F_Holder_held_laid.binds (ps := ["self"]) fun _ _ _ _ _ _ us hl => match us, hl with | [_], _ => rfl) (ok_Holder_held_laid F_Holder_held_laid T Hc Gc HF_laid_out HF_Holder_held_term)
  have HF_Holder_rewriting : MthC P w K mg base (L2.CX P w) 2 Ho "rewriting" ["self", "r"] (sp_Holder_rewriting C G Ho) := mk_mc Hc.cls a_Holder_rewriting i_Holder_rewriting F_Holder_rewriting (F_Holder_rewriting.binds (ps := ["self", "r"]) fun _ _ _ _ _ _ us hl => match us, hl with | [_, _], _ => rfl) (ok_Holder_rewriting F_Holder_rewriting T Hc Rf)
  have HF_Holder_holes_of : MthC P w K mg base (L2.CX P w) 4 Ho "holes_of" ["self", "laid", "rewriting", "i"] (sp_Holder_holes_of C G Ho L) := mk_mc Hc.cls a_Holder_holes_of i_Holder_holes_of F_Holder_holes_of (F_Holder_holes_of.binds (ps := ["self", "laid", "rewriting", "i"]) fun _ _ _ _ _ _ us hl => match us, hl with | [_, _, _, _], _ => rfl) (ok_Holder_holes_of F_Holder_holes_of T Hc Gc Lc Rf HF_holes_at)
  have HF_Holder_told_term : MthC P w K mg base (L2.CX P w) 3 Ho "told_term" ["self"] (sp_Holder_told_term C G Ho) := mk_mc Hc.cls a_Holder_told_term i_Holder_told_term F_Holder_told_term (F_Holder_told_term.binds (ps := ["self"]) fun _ _ _ _ _ _ us hl => match us, hl with | [_], _ => rfl) (ok_Holder_told_term F_Holder_told_term T Hc HF_Holder_held_term)
  have HF_Holder_told_bytes : MthC P w K mg base (L2.CX P w) 5 Ho "told_bytes" ["self"] (sp_Holder_told_bytes C G Ho) := mk_mc Hc.cls a_Holder_told_bytes i_Holder_told_bytes F_Holder_told_bytes (F_Holder_told_bytes.binds (ps := ["self"]) fun _ _ _ _ _ _ us hl => match us, hl with | [_], _ => rfl) (ok_Holder_told_bytes F_Holder_told_bytes T HF_bytes_of HF_Holder_held_laid)
  have HF_Holder_go_back : MthC P w K mg base (L2.CX P w) 3 Ho "go_back" ["self"] (sp_Holder_go_back C G Ho) := mk_mc Hc.cls a_Holder_go_back i_Holder_go_back F_Holder_go_back (F_Holder_go_back.binds (ps := ["self"]) fun _ _ _ _ _ _ us hl => match us, hl with | [_], _ => rfl) (ok_Holder_go_back F_Holder_go_back T Hc Rf)
  have HF_Holder_drop_rule : MthC P w K mg base (L2.CX P w) 3 Ho "drop_rule" ["self"] (sp_Holder_drop_rule C G Ho) := mk_mc Hc.cls a_Holder_drop_rule i_Holder_drop_rule F_Holder_drop_rule (F_Holder_drop_rule.binds (ps := ["self"]) fun _ _ _ _ _ _ us hl => match us, hl with | [_], _ => rfl) (ok_Holder_drop_rule F_Holder_drop_rule T Hc Rf)
  have HF_Holder_load : MthC P w K mg base (L2.CX P w) 4 Ho "load" ["self", "row"] (sp_Holder_load C G Ho) := mk_mc Hc.cls a_Holder_load i_Holder_load F_Holder_load (F_Holder_load.binds (ps := ["self", "row"]) fun _ _ _ _ _ _ us hl => match us, hl with | [_, _], _ => rfl) (ok_Holder_load F_Holder_load T Hc hGH Rf HF_grammar_of)
  have HF_Holder_read_text : MthC P w K mg base (L2.CX P w) 8 Ho "read_text" ["self", "a", "signs"] (sp_Holder_read_text C G Ho) := mk_mc Hc.cls a_Holder_read_text i_Holder_read_text F_Holder_read_text (F_Holder_read_text.binds (ps := ["self", "a", "signs"]) fun _ _ _ _ _ _ us hl => match us, hl with | [_, _, _], _ => rfl) (ok_Holder_read_text F_Holder_read_text T Hc HF_text_term HF_Holder_hold)
  have HF_Holder_put_rule : MthC P w K mg base (L2.CX P w) 9 Ho "put_rule" ["self", "a", "left", "right"] (sp_Holder_put_rule C G Ho) := mk_mc Hc.cls a_Holder_put_rule i_Holder_put_rule F_Holder_put_rule (F_Holder_put_rule.binds (ps := ["self", "a", "left", "right"]) fun _ _ _ _ _ _ us hl => match us, hl with | [_, _, _, _], _ => rfl) (ok_Holder_put_rule F_Holder_put_rule T Hc Rf HF_rewriting_of)
  have HF_Holder_told_rules : MthC P w K mg base CX0 1 Ho "told_rules" ["self"] (sp_Holder_told_rules C G Ho) := mk_mc Hc.cls a_Holder_told_rules i_Holder_told_rules F_Holder_told_rules (F_Holder_told_rules.binds (ps := ["self"]) fun _ _ _ _ _ _ us hl => match us, hl with | [_], _ => rfl) (ok_Holder_told_rules F_Holder_told_rules T Hc)
  have HF_Holder_told_places : MthC P w K mg base (L2.CX P w) 5 Ho "told_places" ["self", "r"] (sp_Holder_told_places C G Ho) := mk_mc Hc.cls a_Holder_told_places i_Holder_told_places F_Holder_told_places (F_Holder_told_places.binds (ps := ["self", "r"]) fun _ _ _ _ _ _ us hl => match us, hl with | [_, _], _ => rfl) (ok_Holder_told_places F_Holder_told_places T Hc Gc Lc HF_holes_at HF_Holder_held_laid HF_Holder_rewriting)
  have HF_Holder_told_binds : MthC P w K mg base (L2.CX P w) 5 Ho "told_binds" ["self", "r", "i"] (sp_Holder_told_binds C G Ho) := mk_mc Hc.cls a_Holder_told_binds i_Holder_told_binds F_Holder_told_binds (F_Holder_told_binds.binds (ps := ["self", "r", "i"]) fun _ _ _ _ _ _ us hl => match us, hl with | [_, _, _], _ => rfl) (ok_Holder_told_binds F_Holder_told_binds T HF_Holder_holes_of HF_Holder_held_laid HF_Holder_rewriting)
  have HF_Holder_do_step : MthC P w K mg base (L2.CX P w) 5 Ho "do_step" ["self"] (sp_Holder_do_step C G Ho) := mk_mc Hc.cls a_Holder_do_step i_Holder_do_step F_Holder_do_step (F_Holder_do_step.binds (ps := ["self"]) fun _ _ _ _ _ _ us hl => match us, hl with | [_], _ => rfl) (ok_Holder_do_step F_Holder_do_step T Hc Gc Rf HF_first_going HF_Holder_held_term HF_Holder_hold)
  have HF_Holder_do_at : MthC P w K mg base (L2.CX P w) 5 Ho "do_at" ["self", "r", "i"] (sp_Holder_do_at C G Ho) := mk_mc Hc.cls a_Holder_do_at i_Holder_do_at F_Holder_do_at (F_Holder_do_at.binds (ps := ["self", "r", "i"]) fun _ _ _ _ _ _ us hl => match us, hl with | [_, _, _], _ => rfl) (ok_Holder_do_at F_Holder_do_at T Hc Rf HF_replaced HF_Holder_holes_of HF_Holder_held_laid HF_Holder_rewriting HF_Holder_hold)
  have HF_Holder_do_run : MthC P w K mg base (L2.CX P w) 6 Ho "do_run" ["self", "n"] (sp_Holder_do_run C G Ho) := mk_mc Hc.cls a_Holder_do_run i_Holder_do_run F_Holder_do_run (F_Holder_do_run.binds (ps := ["self", "n"]) fun _ _ _ _ _ _ us hl => match us, hl with | [_, _], _ => rfl) (ok_Holder_do_run F_Holder_do_run T Hc Gc Rf HF_run_of HF_Holder_held_term HF_Holder_hold)
  have HF_says : FnC P w K mg base CX0 7 "says" ["grammar", "nonterminal", "signs", "term"] (sp_says G) := mk_fc F_says (PySem.W.mg_of X Gn a_says) (F_says.binds (ps := ["grammar", "nonterminal", "signs", "term"]) fun _ _ _ _ _ _ us hl => match us, hl with | [_, _, _, _], _ => rfl) (ok_says F_says T Gc Rf HF_said)
  have HF_Holder_told_faithful : MthC P w K mg base (L2.CX P w) 8 Ho "told_faithful" ["self"] (sp_Holder_told_faithful C G Ho) := mk_mc Hc.cls a_Holder_told_faithful i_Holder_told_faithful F_Holder_told_faithful (F_Holder_told_faithful.binds (ps := ["self"]) fun _ _ _ _ _ _ us hl => match us, hl with | [_], _ => rfl) (ok_Holder_told_faithful F_Holder_told_faithful T Hc Rf HF_bytes_of HF_says HF_Holder_held_laid)
  have HF_changed : FnC P w K mg base (L2.CX P w) 10 "changed" ["holder", "call", "numbers", "rows"] (sp_changed C G Ho) := mk_fc F_changed (PySem.W.mg_of X Gn a_changed) (F_changed.binds (ps := ["holder", "call", "numbers", "rows"]) fun _ _ _ _ _ _ us hl => match us, hl with | [_, _, _, _], _ => rfl) (ok_changed F_changed T HF_Holder_load HF_Holder_read_text HF_Holder_put_rule HF_Holder_drop_rule)
  have HF_looked : FnC P w K mg base (L2.CX P w) 6 "looked" ["holder", "call", "numbers"] (sp_looked C G Ho) := mk_fc F_looked (PySem.W.mg_of X Gn a_looked) (F_looked.binds (ps := ["holder", "call", "numbers"]) fun _ _ _ _ _ _ us hl => match us, hl with | [_, _, _], _ => rfl) (ok_looked F_looked T HF_Holder_told_rules HF_Holder_told_term HF_Holder_told_bytes HF_Holder_told_places HF_Holder_told_binds)
  have HF_stepped : FnC P w K mg base (L2.CX P w) 9 "stepped" ["holder", "call", "numbers"] (sp_stepped C G Ho) := mk_fc F_stepped (PySem.W.mg_of X Gn a_stepped) (F_stepped.binds (ps := ["holder", "call", "numbers"]) fun _ _ _ _ _ _ us hl => match us, hl with | [_, _, _], _ => rfl) (ok_stepped F_stepped T HF_Holder_do_step HF_Holder_do_at HF_Holder_do_run HF_Holder_go_back HF_Holder_told_faithful)
  have HF_answered : FnC P w K mg base CX0 11 "answered" ["holder", "call", "numbers", "rows"] (sp_answered C G Ho) := mk_fc F_answered (PySem.W.mg_of X Gn a_answered) (F_answered.binds (ps := ["holder", "call", "numbers", "rows"]) fun _ _ _ _ _ _ us hl => match us, hl with | [_, _, _, _], _ => rfl) (ok_answered F_answered T Rf HF_changed HF_looked HF_stepped)
  have HF_call_at : FnC P w K mg base CX0 1 "call_at" ["calls", "at"] (sp_call_at K) := mk_fc F_call_at (PySem.W.mg_of X Gn a_call_at) (F_call_at.binds (ps := ["calls", "at"]) fun _ _ _ _ _ _ us hl => match us, hl with | [_, _], _ => rfl) (ok_call_at F_call_at T TN TO)
  exact ok_answers F_answers T HM_Holder HF_call_at HF_answered
end
end TW
set_option Elab.async false
set_option linter.all false
set_option maxRecDepth 100000
set_option maxHeartbeats 4000000
namespace TW
open PySem PySem.Spec PySem.W PyProof.Rows L2
theorem S_ok (K : PySem.W.Frag) (H : Hp) (xs : List V) (a : Codec.denoteAll PySem.Challenge.rw_treerulesdesk_s01_answers.args) (hO : OnlyF H) (hwi : Codec.withinAll PySem.Challenge.rw_treerulesdesk_s01_answers.args a = true) (hask : Codec.app PySem.Challenge.rw_treerulesdesk_s01_answers.args PySem.Challenge.rw_treerulesdesk_s01_answers.asked a = true)
    (hx : DwAll K H xs (Codec.encAll PySem.Challenge.rw_treerulesdesk_s01_answers.args a)) : sp_answers K xs H (fun v H' => Dw K H' v (PySem.Challenge.rw_treerulesdesk_s01_answers.ret.enc (Codec.app PySem.Challenge.rw_treerulesdesk_s01_answers.args PySem.Challenge.rw_treerulesdesk_s01_answers.f a))) fun _ _ _ => False := by
  cases hx with
  | cons h1 h2 =>
    cases h2
    cases h1 with
    | lst hs ha =>
      have e := L2.ints_dw a.1 _ ha
      subst e
      have q : ((Codec.inLen 0 17000 a.1 && a.1.all (Codec.inInt (-1000000000000000000) 1000000000000000000)) && true) = true := hwi
      rw [Bool.and_eq_true, Bool.and_eq_true] at q
      exact ⟨_, a.1, rfl, hs, (Codec.inNat_iff.mp q.1.1).2, hask, fun H' p _ hp => .lst (L2.SqL.of hp) (L2.dw_ints _)⟩
end TW
set_option Elab.async false
set_option linter.all false
set_option maxRecDepth 100000
set_option maxHeartbeats 20000000
open PySem PySem.W PyProof.Rows
set_option maxRecDepth 100000 in
set_option maxHeartbeats 80000000 in
theorem PySem.Challenge.cw_treerulesdesk_s01_answers_holds : PySem.Challenge.rw_treerulesdesk_s01_answers.Holds := by
  w_on; k_headS; (case hw => exact ⟨[.list [.int 3]], by decide +kernel, by decide +kernel⟩)
  k_fillS
  refine L2.walk_specK (r := PySem.Challenge.rw_treerulesdesk_s01_answers) (k := 12) (CX := L2.CX0) (ps := ["calls"]) (sp := TW.sp_answers) (by decide +kernel) rfl rfl ⟨rfl, by decide, by decide⟩ (fun w h Y => PySem.W.kIn_of Y) ?F TW.S_ok (fun _ _ _ _ z => z)
  case F =>
    intro w mg fa h Y KX G hmg
    refine' TW.all_mk KX G hmg ?aC ?xL ?sa ?ga ?gg ?nb ?a1 ?t1 ?l1 ?c1 ?kC ?eC ?tC ?hC ?iC ?sC ?g_G ?pg_G ?hd_G ?po_G ?sa_G ?mk_G ?kc_G ?n_G_many ?n_G_rules ?g_L ?pg_L ?hd_L ?po_L ?sa_L ?mk_L ?kc_L ?n_L_numbers ?n_L_nodes ?n_L_stops ?g_Ho ?pg_Ho ?hd_Ho ?po_Ho ?sa_Ho ?mk_Ho ?kc_Ho ?n_Ho_grammar ?n_Ho_rewritings ?n_Ho_held ?n_Ho_before ?n_G_hold ?z_any ?z_all ?z_enumerate ?z_int ?z_len ?z_min ?z_range ?z_reversed ?z_set ?z_sorted ?z_sum ?z_zip ?c_NONTERMINAL ?c_RANGE ?c_NO_HOLE ?c_MOST_NONTERMINALS ?c_MOST_RULES ?c_MOST_SYMBOLS ?c_MOST_BYTE ?c_MOST_TERM ?c_FIRST_HOLE ?c_MOST_SIGNS ?c_FIRST_SIGN ?c_HOLE_STEP ?c_MOST_HOLE ?c_MOST_REWRITINGS ?c_MOST_BEFORE ?c_MOST_STEPS ?aNu ?lNu ?aRo ?lRo ?a_symbol_ends ?F_symbol_ends ?a_passed ?F_passed ?a_rule_ends ?F_rule_ends ?a_fill_place ?F_fill_place ?a_ends_of ?F_ends_of ?a_comings ?F_comings ?a_children ?F_children ?a_beneath ?F_beneath ?a_reached ?F_reached ?a_has_ring ?F_has_ring ?a_first_parts ?F_first_parts ?a_first_root ?F_first_root ?a_first_term ?F_first_term ?a_said ?F_said ?a_hole_number ?F_hole_number ?a_hole_nonterminal ?F_hole_nonterminal ?a_is_hole ?F_is_hole ?a_check_place ?F_check_place ?a_holes_in ?F_holes_in ?a_with_holes ?F_with_holes ?a_text_term ?F_text_term ?a_pattern_term ?F_pattern_term ?a_rewriting_of ?F_rewriting_of ?a_nodes_of ?F_nodes_of ?a_stops_of ?F_stops_of ?a_Laid_init ?i_Laid_init ?F_Laid_init ?a_laid_out ?F_laid_out ?a_bytes_of ?F_bytes_of ?a_part_of ?F_part_of ?a_matched ?F_matched ?a_filled ?F_filled ?a_holes_at ?F_holes_at ?a_replaced ?F_replaced ?a_first_going ?F_first_going ?a_run_of ?F_run_of ?a_symbol_at ?F_symbol_at ?a_Grammar_init ?i_Grammar_init ?F_Grammar_init ?a_rule_at ?F_rule_at ?a_grammar_of ?F_grammar_of ?a_Holder_init ?i_Holder_init ?F_Holder_init ?a_Holder_hold ?i_Holder_hold ?F_Holder_hold ?a_Holder_held_term ?i_Holder_held_term ?F_Holder_held_term ?a_Holder_held_laid ?i_Holder_held_laid ?F_Holder_held_laid ?a_Holder_rewriting ?i_Holder_rewriting ?F_Holder_rewriting ?a_Holder_holes_of ?i_Holder_holes_of ?F_Holder_holes_of ?a_Holder_told_term ?i_Holder_told_term ?F_Holder_told_term ?a_Holder_told_bytes ?i_Holder_told_bytes ?F_Holder_told_bytes ?a_Holder_go_back ?i_Holder_go_back ?F_Holder_go_back ?a_Holder_drop_rule ?i_Holder_drop_rule ?F_Holder_drop_rule ?a_Holder_load ?i_Holder_load ?F_Holder_load ?a_Holder_read_text ?i_Holder_read_text ?F_Holder_read_text ?a_Holder_put_rule ?i_Holder_put_rule ?F_Holder_put_rule ?a_Holder_told_rules ?i_Holder_told_rules ?F_Holder_told_rules ?a_Holder_told_places ?i_Holder_told_places ?F_Holder_told_places ?a_Holder_told_binds ?i_Holder_told_binds ?F_Holder_told_binds ?a_Holder_do_step ?i_Holder_do_step ?F_Holder_do_step ?a_Holder_do_at ?i_Holder_do_at ?F_Holder_do_at ?a_Holder_do_run ?i_Holder_do_run ?F_Holder_do_run ?a_says ?F_says ?a_Holder_told_faithful ?i_Holder_told_faithful ?F_Holder_told_faithful ?a_changed ?F_changed ?a_looked ?F_looked ?a_stepped ?F_stepped ?a_answered ?F_answered ?a_call_at ?F_call_at ?a_answers ?F_answers
    (case aC => k_is)
    (case xL => k_is)
    (case sa => k_is)
    (case ga => k_is)
    (case gg => k_is)
    (case nb => k_is)
    (case a1 => k_is)
    (case t1 => k_is)
    (case l1 => k_is)
    (case c1 => k_is)
    (case kC => k_is)
    (case eC => k_is)
    (case tC => k_is)
    (case hC => k_is)
    (case iC => k_is)
    (case sC => first | rfl | k_is)
    (case g_G => k_is)
    (case pg_G => k_is)
    (case hd_G => k_is)
    (case po_G => k_is)
    (case sa_G => k_is)
    (case mk_G => k_is)
    (case kc_G => k_is)
    (case n_G_many => k_is)
    (case n_G_rules => k_is)
    (case g_L => k_is)
    (case pg_L => k_is)
    (case hd_L => k_is)
    (case po_L => k_is)
    (case sa_L => k_is)
    (case mk_L => k_is)
    (case kc_L => k_is)
    (case n_L_numbers => k_is)
    (case n_L_nodes => k_is)
    (case n_L_stops => k_is)
    (case g_Ho => k_is)
    (case pg_Ho => k_is)
    (case hd_Ho => k_is)
    (case po_Ho => k_is)
    (case sa_Ho => k_is)
    (case mk_Ho => k_is)
    (case kc_Ho => k_is)
    (case n_Ho_grammar => k_is)
    (case n_Ho_rewritings => k_is)
    (case n_Ho_held => k_is)
    (case n_Ho_before => k_is)
    (case n_G_hold => k_is)
    (case z_any => k_is)
    (case z_all => k_is)
    (case z_enumerate => k_is)
    (case z_int => k_is)
    (case z_len => k_is)
    (case z_min => k_is)
    (case z_range => k_is)
    (case z_reversed => k_is)
    (case z_set => k_is)
    (case z_sorted => k_is)
    (case z_sum => k_is)
    (case z_zip => k_is)
    (case c_NONTERMINAL => k_is)
    (case c_RANGE => k_is)
    (case c_NO_HOLE => k_is)
    (case c_MOST_NONTERMINALS => k_is)
    (case c_MOST_RULES => k_is)
    (case c_MOST_SYMBOLS => k_is)
    (case c_MOST_BYTE => k_is)
    (case c_MOST_TERM => k_is)
    (case c_FIRST_HOLE => k_is)
    (case c_MOST_SIGNS => k_is)
    (case c_FIRST_SIGN => k_is)
    (case c_HOLE_STEP => k_is)
    (case c_MOST_HOLE => k_is)
    (case c_MOST_REWRITINGS => k_is)
    (case c_MOST_BEFORE => k_is)
    (case c_MOST_STEPS => k_is)
    (case aNu => k_is)
    (case lNu => k_is)
    (case aRo => k_is)
    (case lRo => k_is)
    (case a_symbol_ends => k_is)
    (case F_symbol_ends => refine' ⟨_, L2.fun_mk ?l ?c ?k⟩; (case l => k_is); (case c => k_is); (case k => k_is))
    (case a_passed => k_is)
    (case F_passed => refine' ⟨_, L2.fun_mk ?l ?c ?k⟩; (case l => k_is); (case c => k_is); (case k => k_is))
    (case a_rule_ends => k_is)
    (case F_rule_ends => refine' ⟨_, L2.fun_mk ?l ?c ?k⟩; (case l => k_is); (case c => k_is); (case k => k_is))
    (case a_fill_place => k_is)
    (case F_fill_place => refine' ⟨_, L2.fun_mk ?l ?c ?k⟩; (case l => k_is); (case c => k_is); (case k => k_is))
    (case a_ends_of => k_is)
    (case F_ends_of => refine' ⟨_, L2.fun_mk ?l ?c ?k⟩; (case l => k_is); (case c => k_is); (case k => k_is))
    (case a_comings => k_is)
    (case F_comings => refine' ⟨_, L2.fun_mk ?l ?c ?k⟩; (case l => k_is); (case c => k_is); (case k => k_is))
    (case a_children => k_is)
    (case F_children => refine' ⟨_, L2.fun_mk ?l ?c ?k⟩; (case l => k_is); (case c => k_is); (case k => k_is))
    (case a_beneath => k_is)
    (case F_beneath => refine' ⟨_, L2.fun_mk ?l ?c ?k⟩; (case l => k_is); (case c => k_is); (case k => k_is))
    (case a_reached => k_is)
    (case F_reached => refine' ⟨_, L2.fun_mk ?l ?c ?k⟩; (case l => k_is); (case c => k_is); (case k => k_is))
    (case a_has_ring => k_is)
    (case F_has_ring => refine' ⟨_, L2.fun_mk ?l ?c ?k⟩; (case l => k_is); (case c => k_is); (case k => k_is))
    (case a_first_parts => k_is)
    (case F_first_parts => refine' ⟨_, L2.fun_mk ?l ?c ?k⟩; (case l => k_is); (case c => k_is); (case k => k_is))
    (case a_first_root => k_is)
    (case F_first_root => refine' ⟨_, L2.fun_mk ?l ?c ?k⟩; (case l => k_is); (case c => k_is); (case k => k_is))
    (case a_first_term => k_is)
    (case F_first_term => refine' ⟨_, L2.fun_mk ?l ?c ?k⟩; (case l => k_is); (case c => k_is); (case k => k_is))
    (case a_said => k_is)
    (case F_said => refine' ⟨_, L2.fun_mk ?l ?c ?k⟩; (case l => k_is); (case c => k_is); (case k => k_is))
    (case a_hole_number => k_is)
    (case F_hole_number => refine' ⟨_, L2.fun_mk ?l ?c ?k⟩; (case l => k_is); (case c => k_is); (case k => k_is))
    (case a_hole_nonterminal => k_is)
    (case F_hole_nonterminal => refine' ⟨_, L2.fun_mk ?l ?c ?k⟩; (case l => k_is); (case c => k_is); (case k => k_is))
    (case a_is_hole => k_is)
    (case F_is_hole => refine' ⟨_, L2.fun_mk ?l ?c ?k⟩; (case l => k_is); (case c => k_is); (case k => k_is))
    (case a_check_place => k_is)
    (case F_check_place => refine' ⟨_, L2.fun_mk ?l ?c ?k⟩; (case l => k_is); (case c => k_is); (case k => k_is))
    (case a_holes_in => k_is)
    (case F_holes_in => refine' ⟨_, L2.fun_mk ?l ?c ?k⟩; (case l => k_is); (case c => k_is); (case k => k_is))
    (case a_with_holes => k_is)
    (case F_with_holes => refine' ⟨_, L2.fun_mk ?l ?c ?k⟩; (case l => k_is); (case c => k_is); (case k => k_is))
    (case a_text_term => k_is)
    (case F_text_term => refine' ⟨_, L2.fun_mk ?l ?c ?k⟩; (case l => k_is); (case c => k_is); (case k => k_is))
    (case a_pattern_term => k_is)
    (case F_pattern_term => refine' ⟨_, L2.fun_mk ?l ?c ?k⟩; (case l => k_is); (case c => k_is); (case k => k_is))
    (case a_rewriting_of => k_is)
    (case F_rewriting_of => refine' ⟨_, L2.fun_mk ?l ?c ?k⟩; (case l => k_is); (case c => k_is); (case k => k_is))
    (case a_nodes_of => k_is)
    (case F_nodes_of => refine' ⟨_, L2.fun_mk ?l ?c ?k⟩; (case l => k_is); (case c => k_is); (case k => k_is))
    (case a_stops_of => k_is)
    (case F_stops_of => refine' ⟨_, L2.fun_mk ?l ?c ?k⟩; (case l => k_is); (case c => k_is); (case k => k_is))
    (case a_Laid_init => k_is)
    (case i_Laid_init => k_is)
    (case F_Laid_init => refine' ⟨_, L2.fun_mk ?l ?c ?k⟩; (case l => k_is); (case c => k_is); (case k => k_is))
    (case a_laid_out => k_is)
    (case F_laid_out => refine' ⟨_, L2.fun_mk ?l ?c ?k⟩; (case l => k_is); (case c => k_is); (case k => k_is))
    (case a_bytes_of => k_is)
    (case F_bytes_of => refine' ⟨_, L2.fun_mk ?l ?c ?k⟩; (case l => k_is); (case c => k_is); (case k => k_is))
    (case a_part_of => k_is)
    (case F_part_of => refine' ⟨_, L2.fun_mk ?l ?c ?k⟩; (case l => k_is); (case c => k_is); (case k => k_is))
    (case a_matched => k_is)
    (case F_matched => refine' ⟨_, L2.fun_mk ?l ?c ?k⟩; (case l => k_is); (case c => k_is); (case k => k_is))
    (case a_filled => k_is)
    (case F_filled => refine' ⟨_, L2.fun_mk ?l ?c ?k⟩; (case l => k_is); (case c => k_is); (case k => k_is))
    (case a_holes_at => k_is)
    (case F_holes_at => refine' ⟨_, L2.fun_mk ?l ?c ?k⟩; (case l => k_is); (case c => k_is); (case k => k_is))
    (case a_replaced => k_is)
    (case F_replaced => refine' ⟨_, L2.fun_mk ?l ?c ?k⟩; (case l => k_is); (case c => k_is); (case k => k_is))
    (case a_first_going => k_is)
    (case F_first_going => refine' ⟨_, L2.fun_mk ?l ?c ?k⟩; (case l => k_is); (case c => k_is); (case k => k_is))
    (case a_run_of => k_is)
    (case F_run_of => refine' ⟨_, L2.fun_mk ?l ?c ?k⟩; (case l => k_is); (case c => k_is); (case k => k_is))
    (case a_symbol_at => k_is)
    (case F_symbol_at => refine' ⟨_, L2.fun_mk ?l ?c ?k⟩; (case l => k_is); (case c => k_is); (case k => k_is))
    (case a_Grammar_init => k_is)
    (case i_Grammar_init => k_is)
    (case F_Grammar_init => refine' ⟨_, L2.fun_mk ?l ?c ?k⟩; (case l => k_is); (case c => k_is); (case k => k_is))
    (case a_rule_at => k_is)
    (case F_rule_at => refine' ⟨_, L2.fun_mk ?l ?c ?k⟩; (case l => k_is); (case c => k_is); (case k => k_is))
    (case a_grammar_of => k_is)
    (case F_grammar_of => refine' ⟨_, L2.fun_mk ?l ?c ?k⟩; (case l => k_is); (case c => k_is); (case k => k_is))
    (case a_Holder_init => k_is)
    (case i_Holder_init => k_is)
    (case F_Holder_init => refine' ⟨_, L2.fun_mk ?l ?c ?k⟩; (case l => k_is); (case c => k_is); (case k => k_is))
    (case a_Holder_hold => k_is)
    (case i_Holder_hold => k_is)
    (case F_Holder_hold => refine' ⟨_, L2.fun_mk ?l ?c ?k⟩; (case l => k_is); (case c => k_is); (case k => k_is))
    (case a_Holder_held_term => k_is)
    (case i_Holder_held_term => k_is)
    (case F_Holder_held_term => refine' ⟨_, L2.fun_mk ?l ?c ?k⟩; (case l => k_is); (case c => k_is); (case k => k_is))
    (case a_Holder_held_laid => k_is)
    (case i_Holder_held_laid => k_is)
    (case F_Holder_held_laid => refine' ⟨_, L2.fun_mk ?l ?c ?k⟩; (case l => k_is); (case c => k_is); (case k => k_is))
    (case a_Holder_rewriting => k_is)
    (case i_Holder_rewriting => k_is)
    (case F_Holder_rewriting => refine' ⟨_, L2.fun_mk ?l ?c ?k⟩; (case l => k_is); (case c => k_is); (case k => k_is))
    (case a_Holder_holes_of => k_is)
    (case i_Holder_holes_of => k_is)
    (case F_Holder_holes_of => refine' ⟨_, L2.fun_mk ?l ?c ?k⟩; (case l => k_is); (case c => k_is); (case k => k_is))
    (case a_Holder_told_term => k_is)
    (case i_Holder_told_term => k_is)
    (case F_Holder_told_term => refine' ⟨_, L2.fun_mk ?l ?c ?k⟩; (case l => k_is); (case c => k_is); (case k => k_is))
    (case a_Holder_told_bytes => k_is)
    (case i_Holder_told_bytes => k_is)
    (case F_Holder_told_bytes => refine' ⟨_, L2.fun_mk ?l ?c ?k⟩; (case l => k_is); (case c => k_is); (case k => k_is))
    (case a_Holder_go_back => k_is)
    (case i_Holder_go_back => k_is)
    (case F_Holder_go_back => refine' ⟨_, L2.fun_mk ?l ?c ?k⟩; (case l => k_is); (case c => k_is); (case k => k_is))
    (case a_Holder_drop_rule => k_is)
    (case i_Holder_drop_rule => k_is)
    (case F_Holder_drop_rule => refine' ⟨_, L2.fun_mk ?l ?c ?k⟩; (case l => k_is); (case c => k_is); (case k => k_is))
    (case a_Holder_load => k_is)
    (case i_Holder_load => k_is)
    (case F_Holder_load => refine' ⟨_, L2.fun_mk ?l ?c ?k⟩; (case l => k_is); (case c => k_is); (case k => k_is))
    (case a_Holder_read_text => k_is)
    (case i_Holder_read_text => k_is)
    (case F_Holder_read_text => refine' ⟨_, L2.fun_mk ?l ?c ?k⟩; (case l => k_is); (case c => k_is); (case k => k_is))
    (case a_Holder_put_rule => k_is)
    (case i_Holder_put_rule => k_is)
    (case F_Holder_put_rule => refine' ⟨_, L2.fun_mk ?l ?c ?k⟩; (case l => k_is); (case c => k_is); (case k => k_is))
    (case a_Holder_told_rules => k_is)
    (case i_Holder_told_rules => k_is)
    (case F_Holder_told_rules => refine' ⟨_, L2.fun_mk ?l ?c ?k⟩; (case l => k_is); (case c => k_is); (case k => k_is))
    (case a_Holder_told_places => k_is)
    (case i_Holder_told_places => k_is)
    (case F_Holder_told_places => refine' ⟨_, L2.fun_mk ?l ?c ?k⟩; (case l => k_is); (case c => k_is); (case k => k_is))
    (case a_Holder_told_binds => k_is)
    (case i_Holder_told_binds => k_is)
    (case F_Holder_told_binds => refine' ⟨_, L2.fun_mk ?l ?c ?k⟩; (case l => k_is); (case c => k_is); (case k => k_is))
    (case a_Holder_do_step => k_is)
    (case i_Holder_do_step => k_is)
    (case F_Holder_do_step => refine' ⟨_, L2.fun_mk ?l ?c ?k⟩; (case l => k_is); (case c => k_is); (case k => k_is))
    (case a_Holder_do_at => k_is)
    (case i_Holder_do_at => k_is)
    (case F_Holder_do_at => refine' ⟨_, L2.fun_mk ?l ?c ?k⟩; (case l => k_is); (case c => k_is); (case k => k_is))
    (case a_Holder_do_run => k_is)
    (case i_Holder_do_run => k_is)
    (case F_Holder_do_run => refine' ⟨_, L2.fun_mk ?l ?c ?k⟩; (case l => k_is); (case c => k_is); (case k => k_is))
    (case a_says => k_is)
    (case F_says => refine' ⟨_, L2.fun_mk ?l ?c ?k⟩; (case l => k_is); (case c => k_is); (case k => k_is))
    (case a_Holder_told_faithful => k_is)
    (case i_Holder_told_faithful => k_is)
    (case F_Holder_told_faithful => refine' ⟨_, L2.fun_mk ?l ?c ?k⟩; (case l => k_is); (case c => k_is); (case k => k_is))
    (case a_changed => k_is)
    (case F_changed => refine' ⟨_, L2.fun_mk ?l ?c ?k⟩; (case l => k_is); (case c => k_is); (case k => k_is))
    (case a_looked => k_is)
    (case F_looked => refine' ⟨_, L2.fun_mk ?l ?c ?k⟩; (case l => k_is); (case c => k_is); (case k => k_is))
    (case a_stepped => k_is)
    (case F_stepped => refine' ⟨_, L2.fun_mk ?l ?c ?k⟩; (case l => k_is); (case c => k_is); (case k => k_is))
    (case a_answered => k_is)
    (case F_answered => refine' ⟨_, L2.fun_mk ?l ?c ?k⟩; (case l => k_is); (case c => k_is); (case k => k_is))
    (case a_call_at => k_is)
    (case F_call_at => refine' ⟨_, L2.fun_mk ?l ?c ?k⟩; (case l => k_is); (case c => k_is); (case k => k_is))
    (case a_answers => k_is)
    (case F_answers => refine' ⟨_, L2.fun_mk ?l ?c ?k⟩; (case l => k_is); (case c => k_is); (case k => k_is))
