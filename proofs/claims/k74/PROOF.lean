import PyProof.Rows.All
import Wide.All
import OpenK.AllK
import Wide.FinOn
import HandS.ForMost
import HandS.Flow
import HandS.IsInst
import HandS.Strs
import HandS.SetFor
import HandS.TupSets
import HandS.Deep
import HandS.Sort
import HandS.SortInts
import HandS.SortRule
import HandS.Conv
import HandS.Wide
import HandS.WideBits
import HandS.Codes
import PyProof.P3Eq
import PySem.Challenge.RW_ontheline_k74_whole_tree_or_names_gone
set_option Elab.async false
set_option linter.all false
set_option maxRecDepth 100000
set_option maxHeartbeats 8000000
namespace K74
abbrev Tie := Int × Int

/-! ### lists without twins -/
theorem nodup_sub_len {α : Type} [BEq α] [LawfulBEq α] : ∀ {A B : List α}, A.Nodup → (∀ x ∈ A, x ∈ B) → A.length ≤ B.length
  | [], _, _, _ => Nat.zero_le _
  | a :: A, B, hn, hs => by
    have ha : a ∈ B := hs a List.mem_cons_self
    have h1 : A.length ≤ (B.erase a).length := nodup_sub_len (List.nodup_cons.mp hn).2 fun x hx => by
      have hxa : x ≠ a := fun e => (List.nodup_cons.mp hn).1 (e ▸ hx)
      exact (List.mem_erase_of_ne hxa).mpr (hs x (List.mem_cons_of_mem _ hx))
    rw [List.length_erase_of_mem ha] at h1
    have : 0 < B.length := List.length_pos_of_mem ha
    rw [List.length_cons]
    omega
theorem nodup_full {α : Type} [BEq α] [LawfulBEq α] {A B : List α} (hn : A.Nodup) (hs : ∀ x ∈ A, x ∈ B) (hl : B.length ≤ A.length) : ∀ x ∈ B, x ∈ A := fun x hx => by
  cases Classical.em (x ∈ A) with
  | inl h => exact h
  | inr h =>
    have h1 : A.length ≤ (B.erase x).length := nodup_sub_len hn fun y hy => by
      have : y ≠ x := fun e => h (e ▸ hy)
      exact (List.mem_erase_of_ne this).mpr (hs y hy)
    rw [List.length_erase_of_mem hx] at h1
    have : 0 < B.length := List.length_pos_of_mem hx
    omega
theorem nodup_filter {α : Type} {p : α → Bool} {l : List α} (h : l.Nodup) : (l.filter p).Nodup := List.Pairwise.filter p h
theorem nodup_take {α : Type} {l : List α} (k : Nat) (h : l.Nodup) : (l.take k).Nodup := List.Pairwise.sublist (List.take_sublist k l) h

/-! ### the round over the ties -/
/-- one tie is looked at -/
def fires (some found : List Int) (t : Tie) : Bool := (decide (t.1 ∈ some) && decide (t.2 ∈ some)) && (decide (t.1 ∈ found) != decide (t.2 ∈ found))
def step (some found : List Int) (t : Tie) : List Int :=
  if fires some found t = true then found ++ [t.1, t.2].filter (fun x => decide (x ∉ found)) else found
def pass (E : List Tie) (some found : List Int) : List Int := E.foldl (step some) found
def rounds (E : List Tie) (some : List Int) : Nat → List Int → List Int
  | 0, f => f
  | n + 1, f => rounds E some n (pass E some f)
/-- whether some names hang together -/
def tog (E : List Tie) (some : List Int) : Bool := (rounds E some some.length (some.take 1)).length == some.length

inductive Reach (E : List Tie) (S : List Int) (a : Int) : Int → Prop
  | refl : Reach E S a a
  | step {x y : Int} : Reach E S a x → ((x, y) ∈ E ∨ (y, x) ∈ E) → x ∈ S → y ∈ S → Reach E S a y

/-- found so far: no twins, among some, reached; the first is in -/
structure Good (E : List Tie) (S : List Int) (a : Int) (f : List Int) : Prop where
  nd : f.Nodup
  sub : ∀ x ∈ f, x ∈ S
  re : ∀ x ∈ f, Reach E S a x
  first : a ∈ f

theorem fires_iff {S f : List Int} {t : Tie} : fires S f t = true ↔ (t.1 ∈ S ∧ t.2 ∈ S) ∧ ((t.1 ∈ f ∧ t.2 ∉ f) ∨ (t.1 ∉ f ∧ t.2 ∈ f)) := by
  unfold fires
  by_cases h1 : t.1 ∈ S <;> by_cases h2 : t.2 ∈ S <;> by_cases h3 : t.1 ∈ f <;> by_cases h4 : t.2 ∈ f <;> simp [h1, h2, h3, h4]
theorem step_fires {S f : List Int} {t : Tie} (h : fires S f t = true) : (t.1 ∈ f ∧ t.2 ∉ f ∧ step S f t = f ++ [t.2]) ∨ (t.1 ∉ f ∧ t.2 ∈ f ∧ step S f t = f ++ [t.1]) := by
  obtain ⟨_, h2⟩ := fires_iff.mp h
  unfold step
  rw [if_pos h]
  rcases h2 with ⟨a, b⟩ | ⟨a, b⟩
  · left
    refine ⟨a, b, ?_⟩
    simp [a, b]
  · right
    refine ⟨a, b, ?_⟩
    simp [a, b]
theorem step_not {S f : List Int} {t : Tie} (h : ¬ fires S f t = true) : step S f t = f := if_neg h
theorem step_len {S f : List Int} {t : Tie} : (step S f t).length = f.length + (if fires S f t = true then 1 else 0) := by
  by_cases h : fires S f t = true
  · rw [if_pos h]
    rcases step_fires h with ⟨_, _, e⟩ | ⟨_, _, e⟩ <;> rw [e, List.length_append, List.length_singleton]
  · rw [if_neg h, step_not h]
    rfl
theorem step_le {S f : List Int} {t : Tie} : f.length ≤ (step S f t).length := by
  rw [step_len]
  omega
theorem step_good {E : List Tie} {S f : List Int} {a : Int} {t : Tie} (ht : t ∈ E) (g : Good E S a f) : Good E S a (step S f t) := by
  by_cases h : fires S f t = true
  · obtain ⟨⟨s1, s2⟩, _⟩ := fires_iff.mp h
    have key : ∀ x y : Int, x ∈ f → y ∉ f → x ∈ S → y ∈ S → ((x, y) ∈ E ∨ (y, x) ∈ E) → Good E S a (f ++ [y]) := fun x y hx hy sx sy he => by
      refine ⟨?_, ?_, ?_, List.mem_append_left _ g.first⟩
      · rw [List.nodup_append]
        refine ⟨g.nd, by simp, ?_⟩
        intro p hp q hq e
        rw [List.mem_singleton] at hq
        exact hy (hq ▸ e ▸ hp)
      · intro z hz
        rcases List.mem_append.mp hz with hz | hz
        · exact g.sub z hz
        · rw [List.mem_singleton] at hz
          rw [hz]
          exact sy
      · intro z hz
        rcases List.mem_append.mp hz with hz | hz
        · exact g.re z hz
        · rw [List.mem_singleton] at hz
          rw [hz]
          exact (g.re x hx).step he sx sy
    rcases step_fires h with ⟨a1, b1, e⟩ | ⟨a1, b1, e⟩
    · rw [e]
      exact key t.1 t.2 a1 b1 s1 s2 (.inl ht)
    · rw [e]
      exact key t.2 t.1 b1 a1 s2 s1 (.inr ht)
  · rw [step_not h]
    exact g
theorem foldl_good {E : List Tie} {S : List Int} {a : Int} : ∀ (l : List Tie) (f : List Int), (∀ t ∈ l, t ∈ E) → Good E S a f → Good E S a (l.foldl (step S) f)
  | [], f, _, g => g
  | t :: l, f, h, g => foldl_good l _ (fun u hu => h u (List.mem_cons_of_mem _ hu)) (step_good (h t List.mem_cons_self) g)
theorem pass_good {E : List Tie} {S : List Int} {a : Int} {f : List Int} (g : Good E S a f) : Good E S a (pass E S f) := foldl_good E f (fun _ h => h) g
theorem foldl_le {S : List Int} : ∀ (l : List Tie) (f : List Int), f.length ≤ (l.foldl (step S) f).length
  | [], f => Nat.le_refl _
  | t :: l, f => Nat.le_trans step_le (foldl_le l _)
theorem pass_le {E : List Tie} {S f : List Int} : f.length ≤ (pass E S f).length := foldl_le E f
/-- nothing new: nothing fired -/
theorem foldl_still {S : List Int} : ∀ (l : List Tie) (f : List Int), (l.foldl (step S) f).length = f.length → (l.foldl (step S) f) = f ∧ ∀ t ∈ l, fires S f t = false
  | [], f, _ => ⟨rfl, fun _ h => nomatch h⟩
  | t :: l, f, h => by
    have h1 : (l.foldl (step S) (step S f t)).length = f.length := h
    have h2 := foldl_le (S := S) l (step S f t)
    have h3 := step_len (S := S) (f := f) (t := t)
    have hf : fires S f t = false := by
      cases e : fires S f t with
      | false => rfl
      | true =>
        rw [e, if_pos rfl] at h3
        omega
    have e : step S f t = f := step_not (by rw [hf]; decide)
    rw [List.foldl_cons, e]
    rw [e] at h1
    obtain ⟨a, b⟩ := foldl_still l f h1
    exact ⟨a, fun u hu => (List.mem_cons.mp hu).elim (fun q => q ▸ hf) (b u)⟩
theorem pass_still {E : List Tie} {S f : List Int} (h : (pass E S f).length = f.length) : pass E S f = f ∧ ∀ t ∈ E, fires S f t = false := foldl_still E f h
theorem rounds_still {E : List Tie} {S f : List Int} (h : pass E S f = f) : ∀ n, rounds E S n f = f
  | 0 => rfl
  | n + 1 => by
    show rounds E S n (pass E S f) = f
    rw [h]
    exact rounds_still h n
theorem rounds_succ {E : List Tie} {S : List Int} : ∀ (n : Nat) (f : List Int), rounds E S (n + 1) f = pass E S (rounds E S n f)
  | 0, f => rfl
  | n + 1, f => by
    show rounds E S (n + 1) (pass E S f) = pass E S (rounds E S n (pass E S f))
    exact rounds_succ n (pass E S f)
theorem rounds_add {E : List Tie} {S : List Int} : ∀ (m n : Nat) (f : List Int), rounds E S (m + n) f = rounds E S n (rounds E S m f)
  | 0, n, f => by rw [Nat.zero_add]; rfl
  | m + 1, n, f => by
    rw [Nat.add_right_comm]
    show rounds E S (m + n) (pass E S f) = rounds E S n (rounds E S m (pass E S f))
    exact rounds_add m n _
theorem rounds_good {E : List Tie} {S : List Int} {a : Int} : ∀ (n : Nat) (f : List Int), Good E S a f → Good E S a (rounds E S n f)
  | 0, _, g => g
  | n + 1, f, g => rounds_good n _ (pass_good g)
/-- after n rounds nothing new comes, or n were found -/
theorem rounds_grow {E : List Tie} {S : List Int} : ∀ (n : Nat) (f : List Int), pass E S (rounds E S n f) = rounds E S n f ∨ f.length + n + 1 ≤ (pass E S (rounds E S n f)).length
  | 0, f => by
    show pass E S f = f ∨ f.length + 0 + 1 ≤ (pass E S f).length
    by_cases h : (pass E S f).length = f.length
    · exact .inl (pass_still h).1
    · have := pass_le (E := E) (S := S) (f := f)
      right
      omega
  | n + 1, f => by
    rw [rounds_succ]
    rcases rounds_grow n f with h | h
    · left
      rw [h, h]
    · by_cases q : (pass E S (pass E S (rounds E S n f))).length = (pass E S (rounds E S n f)).length
      · exact .inl (pass_still q).1
      · have := pass_le (E := E) (S := S) (f := pass E S (rounds E S n f))
        right
        omega
theorem good_one {E : List Tie} {S : List Int} {a : Int} (h : a ∈ S) : Good E S a [a] :=
  ⟨by simp, fun x hx => by rw [List.mem_singleton] at hx; rw [hx]; exact h, fun x hx => by rw [List.mem_singleton] at hx; rw [hx]; exact .refl, by simp⟩
/-- the end of the rounds: as many rounds as names are enough -/
theorem rounds_end {E : List Tie} {S : List Int} {a : Int} (h : a ∈ S) : pass E S (rounds E S S.length [a]) = rounds E S S.length [a] := by
  rcases rounds_grow (E := E) (S := S) S.length [a] with q | q
  · exact q
  · have g := pass_good (rounds_good (E := E) S.length [a] (good_one h))
    have := nodup_sub_len g.nd g.sub
    rw [List.length_singleton] at q
    omega
/-- whoever goes on till nothing new comes has the same -/
theorem rounds_same {E : List Tie} {S : List Int} {a : Int} (h : a ∈ S) {j : Nat} (hj : pass E S (rounds E S j [a]) = rounds E S j [a]) : rounds E S j [a] = rounds E S S.length [a] := by
  have h1 : rounds E S (j + S.length) [a] = rounds E S j [a] := by
    rw [rounds_add]
    exact rounds_still hj _
  have h2 : rounds E S (S.length + j) [a] = rounds E S S.length [a] := by
    rw [rounds_add]
    exact rounds_still (rounds_end h) _
  rw [← h1, ← h2, Nat.add_comm]
/-- what is closed under the ties holds all that is reached -/
theorem closed_all {E : List Tie} {S f : List Int} {a : Int} (hc : ∀ t ∈ E, fires S f t = false) (ha : a ∈ f) {x : Int} (r : Reach E S a x) : x ∈ f := by
  induction r with
  | refl => exact ha
  | @step x y _ he sx sy ih =>
    cases Classical.em (y ∈ f) with
    | inl h => exact h
    | inr h =>
      exfalso
      rcases he with he | he
      · have : fires S f (x, y) = true := fires_iff.mpr ⟨⟨sx, sy⟩, .inl ⟨ih, h⟩⟩
        rw [hc _ he] at this
        cases this
      · have : fires S f (y, x) = true := fires_iff.mpr ⟨⟨sy, sx⟩, .inr ⟨h, ih⟩⟩
        rw [hc _ he] at this
        cases this
/-- all of some reach each other -/
def Conn (E : List Tie) (S : List Int) : Prop := ∀ x ∈ S, ∀ y ∈ S, Reach E S x y
theorem Reach.trans {E : List Tie} {S : List Int} {a b c : Int} (h : Reach E S a b) (g : Reach E S b c) : Reach E S a c := by
  induction g with
  | refl => exact h
  | step _ he sx sy ih => exact ih.step he sx sy
theorem Reach.one {E : List Tie} {S : List Int} {x y : Int} (he : (x, y) ∈ E ∨ (y, x) ∈ E) (sx : x ∈ S) (sy : y ∈ S) : Reach E S x y := Reach.refl.step he sx sy
theorem Reach.symm {E : List Tie} {S : List Int} {a b : Int} (h : Reach E S a b) : Reach E S b a := by
  induction h with
  | refl => exact .refl
  | step _ he sx sy ih => exact (Reach.one he.symm sy sx).trans ih
theorem Reach.mono {E E' : List Tie} {S S' : List Int} {a b : Int} (hE : ∀ t ∈ E, t ∈ E') (hS : ∀ x ∈ S, x ∈ S') (h : Reach E S a b) : Reach E' S' a b := by
  induction h with
  | refl => exact .refl
  | step _ he sx sy ih => exact ih.step (he.imp (hE _) (hE _)) (hS _ sx) (hS _ sy)
theorem conn_of_head {E : List Tie} {S : List Int} {a : Int} (h : ∀ x ∈ S, Reach E S a x) : Conn E S := fun x hx y hy => (h x hx).symm.trans (h y hy)
theorem tog_iff {E : List Tie} {S : List Int} (hn : S.Nodup) (h0 : S ≠ []) : tog E S = true ↔ Conn E S := by
  obtain ⟨a, r, rfl⟩ : ∃ a r, S = a :: r := by
    cases S with
    | nil => exact absurd rfl h0
    | cons a r => exact ⟨a, r, rfl⟩
  have ha : a ∈ a :: r := List.mem_cons_self
  have g := rounds_good (E := E) (a :: r).length [a] (good_one ha)
  have e := rounds_end (E := E) ha
  have hc := (pass_still (E := E) (congrArg List.length e)).2
  unfold tog
  show (List.length (rounds E (a :: r) (a :: r).length [a]) == (a :: r).length) = true ↔ _
  rw [beq_iff_eq]
  constructor
  · intro hl
    have hs := nodup_full g.nd g.sub (Nat.le_of_eq hl.symm)
    exact conn_of_head (a := a) fun x hx => g.re x (hs x hx)
  · intro hC
    have h1 := nodup_sub_len g.nd g.sub
    have h2 := nodup_sub_len hn fun x hx => closed_all hc g.first (hC a ha x hx)
    omega
end K74
namespace K74
/-- names that had the label of t.2 get that of t.1 -/
def merge (f : Int → Int) (t : Tie) : Int → Int := fun v => if f v = f t.2 then f t.1 else f v
def noRing : List Tie → (Int → Int) → Bool
  | [], _ => true
  | t :: E, f => if f t.1 = f t.2 then false else noRing E (merge f t)
def labs (E : List Tie) (f : Int → Int) : Int → Int := E.foldl merge f
theorem merge_same {f : Int → Int} {t : Tie} (h : f t.1 = f t.2) : merge f t = f := by
  funext v
  unfold merge
  by_cases e : f v = f t.2
  · rw [if_pos e, h, e]
  · rw [if_neg e]
theorem merge_keeps {f : Int → Int} {t : Tie} {x y : Int} (h : f x = f y) : merge f t x = merge f t y := by
  unfold merge
  rw [h]
theorem labs_keeps : ∀ (E : List Tie) {f : Int → Int} {x y : Int}, f x = f y → labs E f x = labs E f y
  | [], _, _, _, h => h
  | t :: E, f, x, y, h => labs_keeps E (f := merge f t) (merge_keeps h)
theorem merge_ties {f : Int → Int} {t : Tie} : merge f t t.1 = merge f t t.2 := by
  unfold merge
  rw [if_pos (rfl : f t.2 = f t.2)]
  by_cases e : f t.1 = f t.2
  · rw [if_pos e]
  · rw [if_neg e]
theorem labs_tie : ∀ (E : List Tie) {f : Int → Int} {t : Tie}, t ∈ E → labs E f t.1 = labs E f t.2
  | u :: E, f, t, h => by
    rcases List.mem_cons.mp h with e | h
    · subst e
      exact labs_keeps E (f := merge f t) merge_ties
    · exact labs_tie E h
theorem labs_reach {E : List Tie} {S : List Int} {f : Int → Int} {a b : Int} (h : Reach E S a b) : labs E f a = labs E f b := by
  induction h with
  | refl => rfl
  | @step x y _ he _ _ ih =>
    rw [ih]
    rcases he with he | he
    · exact labs_tie E he
    · exact (labs_tie E he).symm
/-- names of unlike labels -/
def Apart (f : Int → Int) (R : List Int) : Prop := R.Pairwise fun x y => f x ≠ f y
theorem filter_one {f : Int → Int} {b : Int} : ∀ {R : List Int}, Apart f R → R.length ≤ (R.filter fun x => decide (f x ≠ b)).length + 1
  | [], _ => Nat.zero_le _
  | x :: R, h => by
    obtain ⟨h1, h2⟩ := List.pairwise_cons.mp h
    by_cases e : f x = b
    · have : (R.filter fun x => decide (f x ≠ b)) = R := List.filter_eq_self.mpr fun y hy => decide_eq_true fun q => h1 y hy (e.trans q.symm)
      rw [List.filter_cons_of_neg (by simp [e]), this]
      exact Nat.le_refl _
    · have ih := filter_one (b := b) h2
      rw [List.filter_cons_of_pos (by simp [e]), List.length_cons, List.length_cons]
      omega
theorem merge_apart {f : Int → Int} {t : Tie} {R : List Int} (h : Apart f R) : Apart (merge f t) (R.filter fun x => decide (f x ≠ f t.2)) := by
  have h1 : (R.filter fun x => decide (f x ≠ f t.2)).Pairwise fun x y => f x ≠ f y := List.Pairwise.filter _ h
  refine List.Pairwise.imp_of_mem (R := fun x y => f x ≠ f y) (fun {x y} hx hy q => ?_) h1
  have ex : f x ≠ f t.2 := of_decide_eq_true (List.mem_filter.mp hx).2
  have ey : f y ≠ f t.2 := of_decide_eq_true (List.mem_filter.mp hy).2
  unfold merge
  rw [if_neg ex, if_neg ey]
  exact q
/-- each tie takes away one label at most; one that closes a ring takes away none -/
theorem labs_apart : ∀ (E : List Tie) (f : Int → Int) (R : List Int), Apart f R → ∃ R', (∀ x ∈ R', x ∈ R) ∧ Apart (labs E f) R' ∧ R.length ≤ R'.length + E.length ∧ (noRing E f = false → R.length + 1 ≤ R'.length + E.length)
  | [], f, R, h => ⟨R, fun _ q => q, h, Nat.le_refl _, fun q => nomatch q⟩
  | t :: E, f, R, h => by
    by_cases e : f t.1 = f t.2
    · obtain ⟨R', s, a, l, _⟩ := labs_apart E (merge f t) R (by rw [merge_same e]; exact h)
      refine ⟨R', s, a, ?_, fun _ => ?_⟩ <;> rw [List.length_cons] <;> omega
    · obtain ⟨R', s, a, l, n⟩ := labs_apart E (merge f t) _ (merge_apart h)
      have h1 := filter_one (b := f t.2) h
      refine ⟨R', fun x hx => (List.mem_filter.mp (s x hx)).1, a, ?_, fun q => ?_⟩
      · rw [List.length_cons]
        omega
      · have : noRing E (merge f t) = false := by
          unfold noRing at q
          rw [if_neg e] at q
          exact q
        have := n this
        rw [List.length_cons]
        omega
theorem apart_one {f : Int → Int} {R : List Int} (h : Apart f R) (hs : ∀ x ∈ R, ∀ y ∈ R, f x = f y) : R.length ≤ 1 := by
  match R, h, hs with
  | [], _, _ => exact Nat.zero_le _
  | [_], _, _ => exact Nat.le_refl _
  | x :: y :: r, h, hs => exact absurd (hs x List.mem_cons_self y (List.mem_cons_of_mem _ List.mem_cons_self)) ((List.pairwise_cons.mp h).1 y List.mem_cons_self)
theorem id_apart {S : List Int} (h : S.Nodup) : Apart id S := h
/-- what hangs together has ties enough -/
theorem conn_len {E : List Tie} {S : List Int} (hn : S.Nodup) (hC : Conn E S) : S.length ≤ E.length + 1 := by
  obtain ⟨R, s, a, l, _⟩ := labs_apart E id S (id_apart hn)
  have := apart_one a fun x hx y hy => labs_reach (hC x (s x hx) y (s y hy))
  omega
/-- .. and no ring where it has no more -/
theorem conn_noRing {E : List Tie} {S : List Int} (hn : S.Nodup) (hC : Conn E S) (hl : E.length + 1 ≤ S.length) : noRing E id = true := by
  cases e : noRing E id with
  | true => rfl
  | false =>
    obtain ⟨R, s, a, _, n⟩ := labs_apart E id S (id_apart hn)
    have := apart_one a fun x hx y hy => labs_reach (hC x (s x hx) y (s y hy))
    have := n e
    omega
theorem noRing_take : ∀ (E : List Tie) (f : Int → Int) (k : Nat), noRing E f = true → noRing (E.take k) f = true
  | [], f, k, h => by rw [List.take_nil]; exact h
  | t :: E, f, 0, h => rfl
  | t :: E, f, k + 1, h => by
    unfold noRing at h
    rw [List.take_succ_cons]
    unfold noRing
    by_cases e : f t.1 = f t.2
    · rw [if_pos e] at h
      cases h
    · rw [if_neg e] at h ⊢
      exact noRing_take E _ k h
end K74
namespace K74
/-! ### a strict order, lists sorted by it -/
structure Strict {α : Type} (lt : α → α → Prop) : Prop where
  irr : ∀ a, ¬ lt a a
  tr : ∀ {a b c}, lt a b → lt b c → lt a c
  tri : ∀ a b, lt a b ∨ a = b ∨ lt b a
section
variable {α : Type} [DecidableEq α] {lt : α → α → Prop} [DecidableRel lt]
def insD (lt : α → α → Prop) [DecidableRel lt] (x : α) : List α → List α
  | [] => [x]
  | y :: l => if lt x y then x :: y :: l else if x = y then y :: l else y :: insD lt x l
def sortD (lt : α → α → Prop) [DecidableRel lt] (l : List α) : List α := l.foldr (insD lt) []
theorem mem_insD {x z : α} : ∀ {l : List α}, z ∈ insD lt x l ↔ z = x ∨ z ∈ l
  | [] => by simp [insD]
  | y :: l => by
    unfold insD
    split
    · simp
    · split
      · rename_i e
        subst e
        simp
      · rw [List.mem_cons, mem_insD (l := l), List.mem_cons]
        constructor
        · rintro (h | h | h)
          · exact .inr (.inl h)
          · exact .inl h
          · exact .inr (.inr h)
        · rintro (h | h | h)
          · exact .inr (.inl h)
          · exact .inl h
          · exact .inr (.inr h)
theorem mem_sortD {z : α} : ∀ {l : List α}, z ∈ sortD lt l ↔ z ∈ l
  | [] => Iff.rfl
  | x :: l => by
    show z ∈ insD lt x (sortD lt l) ↔ _
    rw [mem_insD, mem_sortD, List.mem_cons]
theorem insD_sorted (S : Strict lt) {x : α} : ∀ {l : List α}, l.Pairwise lt → (insD lt x l).Pairwise lt
  | [], _ => by simp [insD]
  | y :: l, h => by
    obtain ⟨h1, h2⟩ := List.pairwise_cons.mp h
    unfold insD
    split
    · rename_i e
      refine List.pairwise_cons.mpr ⟨fun z hz => ?_, h⟩
      rcases List.mem_cons.mp hz with q | q
      · exact q ▸ e
      · exact S.tr e (h1 z q)
    · split
      · exact h
      · rename_i e1 e2
        refine List.pairwise_cons.mpr ⟨fun z hz => ?_, insD_sorted S h2⟩
        rcases mem_insD.mp hz with q | q
        · rcases S.tri x y with r | r | r
          · exact absurd r e1
          · exact absurd r e2
          · exact q ▸ r
        · exact h1 z q
theorem sortD_sorted (S : Strict lt) : ∀ (l : List α), (sortD lt l).Pairwise lt
  | [] => List.Pairwise.nil
  | x :: l => insD_sorted S (sortD_sorted S l)
theorem sorted_nodup (S : Strict lt) {l : List α} (h : l.Pairwise lt) : l.Nodup := List.Pairwise.imp (R := lt) (S := fun a b => a ≠ b) (fun {a b} q (e : a = b) => S.irr b (by rw [e] at q; exact q)) h
theorem sorted_unique (S : Strict lt) : ∀ {A B : List α}, A.Pairwise lt → B.Pairwise lt → (∀ x, x ∈ A ↔ x ∈ B) → A = B
  | [], [], _, _, _ => rfl
  | [], b :: B, _, _, h => nomatch (h b).mpr List.mem_cons_self
  | a :: A, [], _, _, h => nomatch (h a).mp List.mem_cons_self
  | a :: A, b :: B, hA, hB, h => by
    obtain ⟨a1, a2⟩ := List.pairwise_cons.mp hA
    obtain ⟨b1, b2⟩ := List.pairwise_cons.mp hB
    have e : a = b := by
      rcases List.mem_cons.mp ((h a).mp List.mem_cons_self) with q | q
      · exact q
      · rcases List.mem_cons.mp ((h b).mpr List.mem_cons_self) with r | r
        · exact r.symm
        · exact absurd (S.tr (b1 a q) (a1 b r)) (S.irr b)
    subst e
    rw [sorted_unique S a2 b2 fun x => ⟨fun hx => ?_, fun hx => ?_⟩]
    · rcases List.mem_cons.mp ((h x).mp (List.mem_cons_of_mem _ hx)) with q | q
      · exact absurd (a1 x hx) (q ▸ S.irr x)
      · exact q
    · rcases List.mem_cons.mp ((h x).mpr (List.mem_cons_of_mem _ hx)) with q | q
      · exact absurd (b1 x hx) (q ▸ S.irr x)
      · exact q
theorem sortD_of (S : Strict lt) {l A : List α} (h : A.Pairwise lt) (hm : ∀ x, x ∈ A ↔ x ∈ l) : A = sortD lt l :=
  sorted_unique S h (sortD_sorted S l) fun x => (hm x).trans mem_sortD.symm
theorem sortD_self (S : Strict lt) {l : List α} (h : l.Pairwise lt) : sortD lt l = l := (sortD_of S h fun _ => Iff.rfl).symm
theorem sortD_len {l : List α} (S : Strict lt) (h : l.Nodup) : (sortD lt l).length = l.length :=
  Nat.le_antisymm (nodup_sub_len (sorted_nodup S (sortD_sorted S l)) fun _ hx => mem_sortD.mp hx) (nodup_sub_len h fun _ hx => mem_sortD.mpr hx)
end
theorem strictI : Strict (fun a b : Int => a < b) := ⟨fun a => Int.lt_irrefl a, fun h g => Int.lt_trans h g, fun a b => Int.lt_trichotomy a b⟩
def ltT (a b : Tie) : Prop := a.1 < b.1 ∨ (a.1 = b.1 ∧ a.2 < b.2)
instance : DecidableRel ltT := fun a b => inferInstanceAs (Decidable (_ ∨ _))
theorem strictT : Strict ltT := by
  refine ⟨fun a h => ?_, fun {a b c} h g => ?_, fun a b => ?_⟩
  · rcases h with h | h <;> omega
  · unfold ltT at *
    omega
  · obtain ⟨a1, a2⟩ := a
    obtain ⟨b1, b2⟩ := b
    unfold ltT
    rcases Int.lt_trichotomy a1 b1 with h | h | h
    · exact .inl (.inl h)
    · subst h
      rcases Int.lt_trichotomy a2 b2 with g | g | g
      · exact .inl (.inr ⟨rfl, g⟩)
      · exact .inr (.inl (by rw [g]))
      · exact .inr (.inr (.inr ⟨rfl, g⟩))
    · exact .inr (.inr (.inl h))
abbrev sortI (l : List Int) : List Int := sortD (fun a b : Int => a < b) l
abbrev sortT (l : List Tie) : List Tie := sortD ltT l

/-! ### rankings, what falls -/
def Falls (E : List Tie) (q : List Int) : Prop := ∀ k, 1 ≤ k → k ≤ q.length → tog E (q.take k) = true
def apart (E : List Tie) (q : List Int) : Option Nat := (List.range' 1 q.length).find? fun m => !tog E (q.take m)
theorem apart_none {E : List Tie} {q : List Int} : apart E q = none ↔ Falls E q := by
  unfold apart Falls
  rw [List.find?_eq_none]
  constructor
  · intro h k h1 h2
    have := h k (List.mem_range'_1.mpr ⟨h1, by omega⟩)
    simpa using this
  · intro h m hm
    obtain ⟨h1, h2⟩ := List.mem_range'_1.mp hm
    rw [h m h1 (by omega)]
    decide
def rest (r L : List Int) : List Int := r.filter fun x => decide (x ∈ L)
def allowed (r L : List Int) (n : Int) : List Int :=
  if (rest r L).idxOf n = 0 then ((rest r L).drop 1).take 1 else (rest r L).take ((rest r L).idxOf n)
def hangs (folk : List (List Int)) (L : List Int) (n : Int) : List Int :=
  folk.foldl (fun found r => found.filter fun x => decide (x ∈ allowed r L n)) (L.filter fun x => decide (x ≠ n))
def lastOf (r L : List Int) : Int := (rest r L).getLastD 0
def lasts (folk : List (List Int)) (L : List Int) : List Int := sortI (folk.map fun r => lastOf r L)
def without (L : List Int) (n : Int) : List Int := L.filter fun x => decide (x ≠ n)
def takeGo (folk : List (List Int)) : Nat → List Int → List (Int × List Int)
  | 0, _ => []
  | f + 1, L => if L.length ≤ 1 then [] else
      if hangs folk L ((lasts folk L).headD 0) = [] then [((lasts folk L).headD 0, [])]
      else ((lasts folk L).headD 0, hangs folk L ((lasts folk L).headD 0)) :: takeGo folk f (without L ((lasts folk L).headD 0))
def tie (a b : Int) : Tie := (min a b, max a b)
def isGone (rows : List (Int × List Int)) : Bool := match rows.getLast? with
  | some (_, s) => s.isEmpty
  | none => false
inductive Paper where
  | tree (E : List Tie)
  | gone (ns : List Int)
def tiesOf (rows : List (Int × List Int)) : List Tie := rows.map fun p => tie p.1 (p.2.headD 0)
def told (folk : List (List Int)) : Paper :=
  let rows := takeGo folk (folk.headD []).length (sortI (folk.headD []))
  if isGone rows = true then .gone (rows.map (·.1)) else .tree (sortT (tiesOf rows))
def isTree (names : List Int) (E : List Tie) : Bool :=
  decide (E.length + 1 = names.length) && E.all (fun t => decide (t.1 < t.2) && decide (t.1 ∈ names) && decide (t.2 ∈ names)) && decide (E = sortT E) && tog E names
/-- a folk whose rankings have L's names at least -/
structure Ok (folk : List (List Int)) (L : List Int) : Prop where
  ne : folk ≠ []
  nd : L.Nodup
  rk : ∀ r ∈ folk, r.Nodup ∧ ∀ x ∈ L, x ∈ r
theorem mem_rest {r L : List Int} {x : Int} : x ∈ rest r L ↔ x ∈ r ∧ x ∈ L := by
  unfold rest
  rw [List.mem_filter, decide_eq_true_iff]
theorem mem_without {L : List Int} {n x : Int} : x ∈ without L n ↔ x ∈ L ∧ x ≠ n := by
  unfold without
  rw [List.mem_filter, decide_eq_true_iff]
theorem Ok.rest_nd {folk : List (List Int)} {L : List Int} (o : Ok folk L) {r : List Int} (hr : r ∈ folk) : (rest r L).Nodup := nodup_filter (o.rk r hr).1
theorem Ok.rest_mem {folk : List (List Int)} {L : List Int} (o : Ok folk L) {r : List Int} (hr : r ∈ folk) {x : Int} : x ∈ rest r L ↔ x ∈ L :=
  mem_rest.trans ⟨fun h => h.2, fun h => ⟨(o.rk r hr).2 x h, h⟩⟩
theorem Ok.rest_len {folk : List (List Int)} {L : List Int} (o : Ok folk L) {r : List Int} (hr : r ∈ folk) : (rest r L).length = L.length :=
  Nat.le_antisymm (nodup_sub_len (o.rest_nd hr) fun x hx => (o.rest_mem hr).mp hx) (nodup_sub_len o.nd fun x hx => (o.rest_mem hr).mpr hx)
theorem Ok.without {folk : List (List Int)} {L : List Int} (o : Ok folk L) (n : Int) : Ok folk (without L n) :=
  ⟨o.ne, nodup_filter o.nd, fun r hr => ⟨(o.rk r hr).1, fun x hx => (o.rk r hr).2 x (mem_without.mp hx).1⟩⟩
theorem rest_without (r L : List Int) (n : Int) : rest r (without L n) = without (rest r L) n := by
  unfold rest without
  rw [List.filter_filter]
  refine List.filter_congr fun x _ => ?_
  by_cases h1 : x ∈ L <;> by_cases h2 : x = n <;> simp [h1, h2]
theorem filter_len {α : Type} (p : α → Bool) : ∀ (l : List α), (l.filter p).length + (l.filter fun x => !p x).length = l.length
  | [] => rfl
  | a :: l => by
    have ih := filter_len p l
    cases e : p a with
    | true =>
      rw [List.filter_cons_of_pos e, List.filter_cons_of_neg (by simp [e]), List.length_cons, List.length_cons]
      omega
    | false =>
      rw [List.filter_cons_of_neg (by simp [e]), List.filter_cons_of_pos (by simp [e]), List.length_cons, List.length_cons]
      omega
theorem without_len {L : List Int} {n : Int} (hn : L.Nodup) (h : n ∈ L) : (without L n).length + 1 = L.length := by
  have h1 := filter_len (fun x => decide (x ≠ n)) L
  have h2 : (L.filter fun x => !decide (x ≠ n)).length = 1 := by
    refine Nat.le_antisymm ?_ ?_
    · exact nodup_sub_len (B := [n]) (nodup_filter hn) fun x hx => by
        have := (List.mem_filter.mp hx).2
        simp at this
        simp [this]
    · exact List.length_pos_of_mem (a := n) (List.mem_filter.mpr ⟨h, by simp⟩)
  unfold without
  omega
theorem filter_take {α : Type} (p : α → Bool) : ∀ (q : List α) (j : Nat), 1 ≤ j → j ≤ (q.filter p).length → ∃ k, 1 ≤ k ∧ k ≤ q.length ∧ (q.filter p).take j = (q.take k).filter p
  | [], j, h1, h2 => by
    rw [List.filter_nil, List.length_nil] at h2
    omega
  | a :: q, j, h1, h2 => by
    cases e : p a with
    | true =>
      rw [List.filter_cons_of_pos e] at h2 ⊢
      match j, h1 with
      | 1, _ => exact ⟨1, Nat.le_refl _, by simp, by simp [e]⟩
      | j + 2, _ =>
        obtain ⟨k, k1, k2, ek⟩ := filter_take p q (j + 1) (by omega) (by rw [List.length_cons] at h2; omega)
        refine ⟨k + 1, by omega, by rw [List.length_cons]; omega, ?_⟩
        rw [List.take_succ_cons, List.take_succ_cons, List.filter_cons_of_pos e, ek]
    | false =>
      rw [List.filter_cons_of_neg (by simp [e])] at h2 ⊢
      obtain ⟨k, k1, k2, ek⟩ := filter_take p q j h1 h2
      refine ⟨k + 1, by omega, by rw [List.length_cons]; omega, ?_⟩
      rw [List.take_succ_cons, List.filter_cons_of_neg (by simp [e]), ek]
theorem take_filter {α : Type} (p : α → Bool) (q : List α) (k : Nat) : (q.take k).filter p = (q.filter p).take ((q.take k).filter p).length := by
  have : (q.take k).filter p <+: q.filter p := (List.take_prefix k q).filter p
  exact (List.prefix_iff_eq_take.mp this)
theorem conn_set {E : List Tie} {S S' : List Int} (h : ∀ x, x ∈ S ↔ x ∈ S') (c : Conn E S) : Conn E S' := fun x hx y hy => (c x ((h x).mpr hx) y ((h y).mpr hy)).mono (fun _ q => q) fun z hz => (h z).mp hz
theorem take_ne {q : List Int} {k : Nat} (h1 : 1 ≤ k) (h2 : k ≤ q.length) : q.take k ≠ [] := fun e => by
  have := congrArg List.length e
  rw [List.length_take, List.length_nil] at this
  omega
theorem Falls.conn {E : List Tie} {q : List Int} (hq : q.Nodup) (h : Falls E q) {k : Nat} (h1 : 1 ≤ k) (h2 : k ≤ q.length) : Conn E (q.take k) := (tog_iff (nodup_take k hq) (take_ne h1 h2)).mp (h k h1 h2)
theorem falls_of {E : List Tie} {q : List Int} (hq : q.Nodup) (h : ∀ k, 1 ≤ k → k ≤ q.length → Conn E (q.take k)) : Falls E q := fun k h1 h2 => (tog_iff (nodup_take k hq) (take_ne h1 h2)).mpr (h k h1 h2)
theorem mem_hangs {L : List Int} {n w : Int} : ∀ (folk : List (List Int)), w ∈ hangs folk L n ↔ (w ∈ L ∧ w ≠ n) ∧ ∀ r ∈ folk, w ∈ allowed r L n := by
  have go : ∀ (folk : List (List Int)) (f : List Int), w ∈ folk.foldl (fun found r => found.filter fun x => decide (x ∈ allowed r L n)) f ↔ w ∈ f ∧ ∀ r ∈ folk, w ∈ allowed r L n := by
    intro folk
    induction folk with
    | nil => intro f; simp
    | cons r folk ih =>
      intro f
      rw [List.foldl_cons, ih, List.mem_filter, decide_eq_true_iff]
      simp only [List.mem_cons, forall_eq_or_imp]
      exact ⟨fun ⟨⟨a, b⟩, c⟩ => ⟨a, b, c⟩, fun ⟨a, b, c⟩ => ⟨⟨a, b⟩, c⟩⟩
  intro folk
  unfold hangs
  rw [go, List.mem_filter, decide_eq_true_iff]
theorem lastOf_mem {r L : List Int} (h : rest r L ≠ []) : ∃ q, rest r L = q ++ [lastOf r L] := by
  refine ⟨(rest r L).dropLast, ?_⟩
  have : lastOf r L = (rest r L).getLast h := by
    unfold lastOf
    rw [List.getLastD_eq_getLast?, List.getLast?_eq_getLast h]
    rfl
  rw [this, List.dropLast_concat_getLast]
/-- the first of the lasts is last in some ranking -/
theorem head_last {folk : List (List Int)} {L : List Int} (o : Ok folk L) (h0 : L ≠ []) : ∃ r ∈ folk, ∃ q, rest r L = q ++ [(lasts folk L).headD 0] := by
  have hne : lasts folk L ≠ [] := fun e => by
    obtain ⟨r, t, hf⟩ : ∃ r t, folk = r :: t := by
      cases folk with
      | nil => exact absurd rfl o.ne
      | cons r t => exact ⟨r, t, rfl⟩
    have : lastOf r L ∈ lasts folk L := mem_sortD.mpr (by rw [hf]; simp)
    rw [e] at this
    cases this
  have hm : (lasts folk L).headD 0 ∈ lasts folk L := by
    cases e : lasts folk L with
    | nil => exact absurd e hne
    | cons a t => simp
  obtain ⟨r, hr, e⟩ := List.mem_map.mp (mem_sortD.mp hm)
  have hl : rest r L ≠ [] := fun z => by
    have := o.rest_len hr
    rw [z, List.length_nil] at this
    exact h0 (List.length_eq_zero_iff.mp this.symm)
  obtain ⟨q, hq⟩ := lastOf_mem hl
  exact ⟨r, hr, q, by rw [← e]; exact hq⟩
theorem head_in {folk : List (List Int)} {L : List Int} (o : Ok folk L) (h0 : L ≠ []) : (lasts folk L).headD 0 ∈ L := by
  obtain ⟨r, hr, q, e⟩ := head_last o h0
  exact (o.rest_mem hr).mp (by rw [e]; simp)
end K74
namespace K74
theorem prefix_mem {q : List Int} {n : Int} {k : Nat} (hn : n ∈ q.take k) : q.idxOf n < k := by
  have h1 : q.idxOf n = (q.take k).idxOf n := by
    have := List.idxOf_append (l₁ := q.take k) (l₂ := q.drop k) (a := n)
    rw [List.take_append_drop, if_pos hn] at this
    exact this
  have h2 := List.idxOf_lt_length_iff.mpr hn
  rw [List.length_take] at h2
  omega
theorem idx_zero {q t : List Int} {n x : Int} (hi : q.idxOf n < q.length) (h : q.idxOf n = 0) (e : q = x :: t) : x = n := by
  have h1 : q[q.idxOf n]? = some n := by rw [List.getElem?_eq_getElem hi, List.getElem_idxOf]
  rw [h, e] at h1
  exact Option.some.inj h1
/-- the neighbour by which a name is reached -/
theorem reach_last {E : List Tie} {S : List Int} {a b : Int} (h : Reach E S a b) : a ≠ b → ∃ w, w ≠ b ∧ w ∈ S ∧ ((w, b) ∈ E ∨ (b, w) ∈ E) := by
  induction h with
  | refl => exact fun h => absurd rfl h
  | @step x y _ he sx sy ih =>
    intro hne
    by_cases e : x = y
    · subst e
      exact ih hne
    · exact ⟨x, e, sx, he⟩
def touches (n : Int) (t : Tie) : Bool := decide (t.1 = n) || decide (t.2 = n)
def cut (E : List Tie) (n : Int) : List Tie := E.filter fun t => !touches n t
theorem mem_cut {E : List Tie} {n : Int} {t : Tie} : t ∈ cut E n ↔ t ∈ E ∧ t.1 ≠ n ∧ t.2 ≠ n := by
  unfold cut touches
  rw [List.mem_filter]
  simp
theorem conn_cut {E : List Tie} {S : List Int} {n : Int} (hn : n ∉ S) (h : Conn E S) : Conn (cut E n) S := fun x hx y hy => by
  have := h x hx y hy
  clear hy
  induction this with
  | refl => exact .refl
  | @step u v _ he su sv ih =>
    have hu : u ≠ n := fun e => hn (e ▸ su)
    have hv : v ≠ n := fun e => hn (e ▸ sv)
    exact ih.step (he.imp (fun q => mem_cut.mpr ⟨q, hu, hv⟩) fun q => mem_cut.mpr ⟨q, hv, hu⟩) su sv
/-- a leaf is taken away -/
theorem conn_leaf {E : List Tie} {S : List Int} {n w : Int} (hw : w ≠ n) (hl : ∀ t ∈ E, (t.1 = n ∨ t.2 = n) → t = (n, w) ∨ t = (w, n)) (h : Conn E S) : Conn (cut E n) (without S n) := by
  have nb : ∀ x, (x, n) ∈ E ∨ (n, x) ∈ E → x ≠ n → x = w := fun x he hx => by
    rcases he with he | he
    · rcases hl _ he (.inr rfl) with e | e
      · exact absurd (Prod.mk.inj e).1 hx
      · exact (Prod.mk.inj e).1
    · rcases hl _ he (.inl rfl) with e | e
      · exact (Prod.mk.inj e).2
      · exact absurd (Prod.mk.inj e).2 hx
  have key : ∀ x y, x ≠ n → Reach E S x y → (y ≠ n → Reach (cut E n) (without S n) x y) ∧ (y = n → Reach (cut E n) (without S n) x w) := by
    intro x y hx r
    induction r with
    | refl => exact ⟨fun _ => .refl, fun e => absurd e hx⟩
    | @step u v _ he su sv ih =>
      by_cases hu : u = n
      · subst hu
        have r1 := ih.2 rfl
        constructor
        · intro hv
          have : v = w := nb v he.symm hv
          rw [this]
          exact r1
        · intro _
          exact r1
      · have r1 := ih.1 hu
        constructor
        · intro hv
          exact r1.step (he.imp (fun q => mem_cut.mpr ⟨q, hu, hv⟩) fun q => mem_cut.mpr ⟨q, hv, hu⟩) (mem_without.mpr ⟨su, hu⟩) (mem_without.mpr ⟨sv, hv⟩)
        · intro hv
          subst hv
          have : u = w := nb u he hu
          rw [← this]
          exact r1
  intro x hx y hy
  obtain ⟨hx1, hx2⟩ := mem_without.mp hx
  obtain ⟨hy1, hy2⟩ := mem_without.mp hy
  exact (key x y hx2 (h x hx1 y hy1)).1 hy2
theorem len_cut (E : List Tie) (n : Int) : (cut E n).length + (E.filter (touches n)).length = E.length := by
  have := filter_len (touches n) E
  unfold cut
  omega
theorem one_of {α : Type} {l : List α} {a b : α} (h : l.length ≤ 1) (ha : a ∈ l) (hb : b ∈ l) : a = b := by
  match l, h, ha, hb with
  | [x], _, ha, hb => rw [List.mem_singleton.mp ha, List.mem_singleton.mp hb]
  | x :: y :: r, h, _, _ =>
    rw [List.length_cons, List.length_cons] at h
    omega
/-- ties that are few, by which all rankings among L fall -/
structure Fits (folk : List (List Int)) (L : List Int) (E : List Tie) : Prop where
  len : E.length + 1 ≤ L.length
  falls : ∀ r ∈ folk, Falls E (rest r L)
theorem idx_take {q : List Int} {n : Int} (hn : n ∈ q) : q.take (q.idxOf n + 1) = q.take (q.idxOf n) ++ [n] := by
  have h := List.idxOf_lt_length_iff.mpr hn
  rw [List.take_succ_eq_append_getElem h, List.getElem_idxOf]
theorem idx_not {q : List Int} {n : Int} (hn : n ∈ q) : n ∉ q.take (q.idxOf n) := fun h => by
  have := prefix_mem h
  omega
theorem fits_step {folk : List (List Int)} {L : List Int} {E : List Tie} (o : Ok folk L) (f : Fits folk L E) (h2 : 2 ≤ L.length) :
    hangs folk L ((lasts folk L).headD 0) ≠ [] ∧ Fits folk (without L ((lasts folk L).headD 0)) (cut E ((lasts folk L).headD 0)) := by
  have h0 : L ≠ [] := fun e => by rw [e, List.length_nil] at h2; omega
  obtain ⟨r0, hr0, q0, e0⟩ := head_last o h0
  have hnL := head_in o h0
  generalize (lasts folk L).headD 0 = n at *
  have nd0 := o.rest_nd hr0
  have len0 := o.rest_len hr0
  have lenq : q0.length + 1 = L.length := by
    rw [← len0, e0, List.length_append, List.length_singleton]
  have hnq : n ∉ q0 := fun h => by
    rw [e0, List.nodup_append] at nd0
    exact nd0.2.2 n h n (by simp) rfl
  have t0 : (rest r0 L).take q0.length = q0 := by rw [e0, List.take_left]
  have ndq : q0.Nodup := by
    rw [← t0]
    exact nodup_take _ nd0
  -- what is left hangs together without n
  have c0 : Conn E q0 := by
    have := (f.falls r0 hr0).conn nd0 (k := q0.length) (by omega) (by rw [len0]; omega)
    rw [t0] at this
    exact this
  have c1 : Conn (cut E n) q0 := conn_cut hnq c0
  have m1 := conn_len ndq c1
  have m2 := len_cut E n
  have fl := f.len
  have deg : (E.filter (touches n)).length ≤ 1 := by omega
  -- n has a tie
  have cL : Conn E (rest r0 L) := by
    have := (f.falls r0 hr0).conn nd0 (k := (rest r0 L).length) (by omega) (Nat.le_refl _)
    rw [List.take_length] at this
    exact this
  obtain ⟨a, ha⟩ : ∃ a, a ∈ q0 := List.exists_mem_of_length_pos (by omega)
  have hna : a ≠ n := fun e => hnq (e ▸ ha)
  obtain ⟨w, hw, _, hwe⟩ := reach_last (cL a (by rw [e0]; exact List.mem_append_left _ ha) n (by rw [e0]; simp)) hna
  have hl : ∀ t ∈ E, (t.1 = n ∨ t.2 = n) → t = (n, w) ∨ t = (w, n) := fun t ht hh => by
    have ht' : t ∈ E.filter (touches n) := List.mem_filter.mpr ⟨ht, by unfold touches; simpa using hh⟩
    rcases hwe with q | q
    · exact .inr (one_of deg ht' (List.mem_filter.mpr ⟨q, by unfold touches; simp⟩))
    · exact .inl (one_of deg ht' (List.mem_filter.mpr ⟨q, by unfold touches; simp⟩))
  have nb : ∀ x, (x, n) ∈ E ∨ (n, x) ∈ E → x ≠ n → x = w := fun x he hx => by
    rcases he with he | he
    · rcases hl _ he (.inr rfl) with e | e
      · exact absurd (Prod.mk.inj e).1 hx
      · exact (Prod.mk.inj e).1
    · rcases hl _ he (.inl rfl) with e | e
      · exact (Prod.mk.inj e).2
      · exact absurd (Prod.mk.inj e).2 hx
  constructor
  · -- it can hang at w
    have all : ∀ r ∈ folk, w ∈ allowed r L n := fun r hr => by
      have nd := o.rest_nd hr
      have len := o.rest_len hr
      have hn : n ∈ rest r L := (o.rest_mem hr).mpr hnL
      have hi := List.idxOf_lt_length_iff.mpr hn
      unfold allowed
      by_cases h : (rest r L).idxOf n = 0
      · rw [if_pos h]
        obtain ⟨x, y, t, e⟩ : ∃ x y t, rest r L = x :: y :: t := by
          match e : rest r L, len with
          | [], z => rw [List.length_nil] at z; omega
          | [x], z => rw [List.length_singleton] at z; omega
          | x :: y :: t, _ => exact ⟨x, y, t, rfl⟩
        have ex : x = n := idx_zero hi h e
        have c := (f.falls r hr).conn nd (k := 2) (by omega) (by omega)
        rw [e] at c nd
        subst ex
        have hxy : x ≠ y := fun q => (List.nodup_cons.mp nd).1 (by rw [q]; simp)
        obtain ⟨v, hv1, hv2, hv3⟩ := reach_last (c y (by simp) x (by simp)) (Ne.symm hxy)
        have hv : v = y := by
          simp at hv2
          rcases hv2 with q | q
          · exact absurd q hv1
          · exact q
        have := nb v hv3 hv1
        rw [e]
        simp
        rw [← this, hv]
      · rw [if_neg h]
        have c := (f.falls r hr).conn nd (k := (rest r L).idxOf n + 1) (by omega) (by omega)
        have e := idx_take hn
        have hnn := idx_not hn
        obtain ⟨b, hb⟩ : ∃ b, b ∈ (rest r L).take ((rest r L).idxOf n) := List.exists_mem_of_length_pos (by rw [List.length_take]; omega)
        have hbn : b ≠ n := fun q => hnn (q ▸ hb)
        rw [e] at c
        obtain ⟨v, hv1, hv2, hv3⟩ := reach_last (c b (List.mem_append_left _ hb) n (by simp)) hbn
        rw [← nb v hv3 hv1]
        rcases List.mem_append.mp hv2 with q | q
        · exact q
        · rw [List.mem_singleton] at q
          exact absurd q hv1
    have hwL : w ∈ L := by
      have h1 := all r0 hr0
      have : w ∈ rest r0 L := by
        unfold allowed at h1
        split at h1
        · exact List.mem_of_mem_drop (List.mem_of_mem_take h1)
        · exact List.mem_of_mem_take h1
      exact (o.rest_mem hr0).mp this
    exact fun e => by
      have := (mem_hangs folk (L := L) (n := n) (w := w)).mpr ⟨⟨hwL, hw⟩, all⟩
      rw [e] at this
      cases this
  · have wl := without_len o.nd hnL
    have d1 : 1 ≤ (E.filter (touches n)).length := by
      rcases hwe with q | q
      · exact List.length_pos_of_mem (a := (w, n)) (List.mem_filter.mpr ⟨q, by unfold touches; simp⟩)
      · exact List.length_pos_of_mem (a := (n, w)) (List.mem_filter.mpr ⟨q, by unfold touches; simp⟩)
    refine ⟨by omega, fun r hr => ?_⟩
    have nd := o.rest_nd hr
    rw [rest_without]
    refine falls_of (nodup_filter nd) fun j h1 h2 => ?_
    obtain ⟨k, k1, k2, ek⟩ := filter_take (fun x => decide (x ≠ n)) (rest r L) j h1 h2
    show Conn (cut E n) (((rest r L).filter fun x => decide (x ≠ n)).take j)
    rw [ek]
    exact conn_leaf hw hl ((f.falls r hr).conn nd k1 k2)
theorem takeGo_tree : ∀ (f : Nat) {folk : List (List Int)} {L : List Int} {E : List Tie}, Ok folk L → Fits folk L E → ∀ p ∈ takeGo folk f L, p.2 ≠ []
  | 0, _, _, _, _, _, p, hp => nomatch hp
  | f + 1, folk, L, E, o, ft, p, hp => by
    unfold takeGo at hp
    split at hp
    · cases hp
    · obtain ⟨h1, h2⟩ := fits_step o ft (by omega)
      rw [if_neg h1] at hp
      rcases List.mem_cons.mp hp with e | hp
      · rw [e]
        exact h1
      · exact takeGo_tree f (o.without _) h2 p hp
theorem not_gone {rows : List (Int × List Int)} (h : ∀ p ∈ rows, p.2 ≠ []) : isGone rows = false := by
  unfold isGone
  cases e : rows.getLast? with
  | none => rfl
  | some p =>
    have := h p (List.mem_of_getLast? e)
    show p.2.isEmpty = false
    cases q : p.2 with
    | nil => exact absurd q this
    | cons a t => rfl

/-! ### what is told is right: a tree -/
theorem allowed_sub {r L : List Int} {n w : Int} (h : w ∈ allowed r L n) : w ∈ rest r L := by
  unfold allowed at h
  split at h
  · exact List.mem_of_mem_drop (List.mem_of_mem_take h)
  · exact List.mem_of_mem_take h
theorem tie_mem {a b : Int} {E : List Tie} (h : tie a b ∈ E) : (a, b) ∈ E ∨ (b, a) ∈ E := by
  unfold tie at h
  rcases Int.le_total a b with q | q
  · rw [Int.min_eq_left q, Int.max_eq_right q] at h
    exact .inl h
  · rw [Int.min_eq_right q, Int.max_eq_left q] at h
    exact .inr h
/-- a name hung at one of its places: all still fall -/
theorem hang_falls {folk : List (List Int)} {L : List Int} {E E' : List Tie} {n w : Int} (o : Ok folk L) (hn : n ∈ L) (hw : w ∈ hangs folk L n) (hE : ∀ t ∈ E', t ∈ E) (ht : (n, w) ∈ E ∨ (w, n) ∈ E)
    (h : ∀ r ∈ folk, Falls E' (rest r (without L n))) : ∀ r ∈ folk, Falls E (rest r L) := fun r hr => by
  have nd := o.rest_nd hr
  obtain ⟨⟨_, hwn⟩, hal⟩ := (mem_hangs folk).mp hw
  have ha := hal r hr
  have hnr : n ∈ rest r L := (o.rest_mem hr).mpr hn
  have hf := h r hr
  rw [rest_without] at hf
  refine falls_of nd fun k k1 k2 => ?_
  have ek := take_filter (fun x => decide (x ≠ n)) (rest r L) k
  have sub : ∀ x ∈ ((rest r L).take k).filter fun x => decide (x ≠ n), x ∈ (rest r L).take k := fun x hx => (List.mem_filter.mp hx).1
  have cP : 1 ≤ (((rest r L).take k).filter fun x => decide (x ≠ n)).length → Conn E' (((rest r L).take k).filter fun x => decide (x ≠ n)) := fun j1 => by
    have j2 : (((rest r L).take k).filter fun x => decide (x ≠ n)).length ≤ (without (rest r L) n).length := by
      have := congrArg List.length ek
      rw [List.length_take] at this
      unfold without
      omega
    have := hf.conn (nodup_filter nd) j1 j2
    unfold without at this
    rw [← ek] at this
    exact this
  by_cases hP : n ∈ (rest r L).take k
  · by_cases j1 : 1 ≤ (((rest r L).take k).filter fun x => decide (x ≠ n)).length
    · have c := cP j1
      have hwk : w ∈ (rest r L).take k := by
        unfold allowed at ha
        by_cases h0 : (rest r L).idxOf n = 0
        · rw [if_pos h0] at ha
          match e : rest r L with
          | [] => rw [e] at ha; simp at ha
          | [x] => rw [e] at ha; simp at ha
          | x :: y :: t =>
            rw [e] at ha
            simp at ha
            have k2' : 2 ≤ k := by
              have hi := List.idxOf_lt_length_iff.mpr hnr
              have ex : x = n := idx_zero hi h0 e
              match k, k1 with
              | 1, _ =>
                rw [e] at j1
                simp [ex] at j1
              | k + 2, _ => omega
            match k, k2' with
            | k + 2, _ => rw [ha]; simp
        · rw [if_neg h0] at ha
          have := prefix_mem hP
          exact List.take_subset_take_left _ (by omega) ha
      have hw' : w ∈ ((rest r L).take k).filter fun x => decide (x ≠ n) := List.mem_filter.mpr ⟨hwk, decide_eq_true hwn⟩
      refine conn_of_head (a := w) fun x hx => ?_
      by_cases e : x = n
      · subst e
        exact Reach.one ht.symm hwk hx
      · exact (c w hw' x (List.mem_filter.mpr ⟨hx, decide_eq_true e⟩)).mono hE sub
    · intro x hx y hy
      have only : ∀ z ∈ (rest r L).take k, z = n := fun z hz => by
        cases Classical.em (z = n) with
        | inl q => exact q
        | inr q => exact absurd (List.length_pos_of_mem (List.mem_filter.mpr ⟨hz, decide_eq_true q⟩)) j1
      rw [only x hx, only y hy]
      exact .refl
  · have e : ((rest r L).take k).filter (fun x => decide (x ≠ n)) = (rest r L).take k := List.filter_eq_self.mpr fun x hx => decide_eq_true fun q => hP (q ▸ hx)
    rw [e] at cP
    have := cP (by rw [List.length_take]; omega)
    exact fun x hx y hy => (this x hx y hy).mono hE fun _ q => q
/-- the ties told stand for a tree -/
structure Trees (folk : List (List Int)) (L : List Int) (E : List Tie) : Prop where
  len : E.length + 1 = L.length
  nd : E.Nodup
  ok : ∀ t ∈ E, t.1 < t.2 ∧ t.1 ∈ L ∧ t.2 ∈ L
  falls : ∀ r ∈ folk, Falls E (rest r L)
theorem one_falls {q : List Int} (h : q.length ≤ 1) (hn : q.Nodup) : Falls [] q := falls_of hn fun k k1 k2 => by
  intro x hx y hy
  have := one_of (l := q.take k) (by rw [List.length_take]; omega) hx hy
  rw [this]
  exact .refl
theorem takeGo_right : ∀ (f : Nat) {folk : List (List Int)} {L : List Int}, Ok folk L → 1 ≤ L.length → L.length ≤ f + 1 → isGone (takeGo folk f L) = false → Trees folk L (tiesOf (takeGo folk f L))
  | 0, folk, L, o, h1, h2, _ => by
    refine ⟨by show 0 + 1 = L.length; omega, List.nodup_nil, fun t ht => (nomatch ht), fun r hr => one_falls (by rw [o.rest_len hr]; omega) (o.rest_nd hr)⟩
  | f + 1, folk, L, o, h1, h2, hg => by
    unfold takeGo at hg ⊢
    split at hg
    · rw [if_pos (by assumption)]
      refine ⟨by show 0 + 1 = L.length; omega, List.nodup_nil, fun t ht => (nomatch ht), fun r hr => one_falls (by rw [o.rest_len hr]; omega) (o.rest_nd hr)⟩
    · rename_i hl
      rw [if_neg hl]
      have h0 : L ≠ [] := fun e => by rw [e, List.length_nil] at h1; omega
      have hnL := head_in o h0
      generalize (lasts folk L).headD 0 = n at *
      split at hg
      · exact absurd (show true = false from hg) (by decide)
      · rename_i he
        rw [if_neg he]
        have wl := without_len o.nd hnL
        have hg' : isGone (takeGo folk f (without L n)) = false := by
          unfold isGone at hg ⊢
          rw [List.getLast?_cons] at hg
          cases e : (takeGo folk f (without L n)).getLast? with
          | none => rfl
          | some p =>
            rw [e] at hg
            exact hg
        obtain ⟨a, b, c, d⟩ := takeGo_right f (o.without n) (by omega) (by omega) hg'
        obtain ⟨w, t, ew⟩ : ∃ w t, hangs folk L n = w :: t := by
          cases e : hangs folk L n with
          | nil => exact absurd e he
          | cons w t => exact ⟨w, t, rfl⟩
        have hw : w ∈ hangs folk L n := by rw [ew]; simp
        obtain ⟨⟨hwL, hwn⟩, _⟩ := (mem_hangs folk).mp hw
        have e : tiesOf ((n, hangs folk L n) :: takeGo folk f (without L n)) = tie n w :: tiesOf (takeGo folk f (without L n)) := by
          unfold tiesOf
          rw [List.map_cons, ew]
          rfl
        rw [e]
        have tok : (tie n w).1 < (tie n w).2 ∧ (tie n w).1 ∈ L ∧ (tie n w).2 ∈ L := by
          unfold tie
          rcases Int.le_total n w with q | q
          · rw [Int.min_eq_left q, Int.max_eq_right q]
            exact ⟨Int.lt_iff_le_and_ne.mpr ⟨q, Ne.symm hwn⟩, hnL, hwL⟩
          · rw [Int.min_eq_right q, Int.max_eq_left q]
            exact ⟨Int.lt_iff_le_and_ne.mpr ⟨q, hwn⟩, hwL, hnL⟩
        have hnot : tie n w ∉ tiesOf (takeGo folk f (without L n)) := fun h => by
          have := (c _ h).2
          rcases tie_mem (a := n) (b := w) (E := [tie n w]) (by simp) with q | q
          · rw [List.mem_singleton] at q
            rw [← q] at this
            exact (mem_without.mp this.1).2 rfl
          · rw [List.mem_singleton] at q
            rw [← q] at this
            exact (mem_without.mp this.2).2 rfl
        refine ⟨by rw [List.length_cons]; omega, List.nodup_cons.mpr ⟨hnot, b⟩, fun t ht => ?_, ?_⟩
        · rcases List.mem_cons.mp ht with q | q
          · rw [q]
            exact tok
          · exact ⟨(c t q).1, (mem_without.mp (c t q).2.1).1, (mem_without.mp (c t q).2.2).1⟩
        · exact hang_falls (E' := tiesOf (takeGo folk f (without L n))) o hnL hw (fun t ht => List.mem_cons_of_mem _ ht) (tie_mem List.mem_cons_self) d
/-- .. or names taken out -/
structure Gone (folk : List (List Int)) (L : List Int) (ns : List Int) : Prop where
  pos : 1 ≤ ns.length
  few : ns.length < L.length
  sub : ∀ n ∈ ns, n ∈ L
  nd : ns.Nodup
  last : ∀ k, (h : k < ns.length) → ns[k] ∈ lasts folk (L.filter fun x => decide (x ∉ ns.take k))
  hang : ∀ n, ns.getLast? = some n → hangs folk (L.filter fun x => decide (x ∉ ns.dropLast)) n = []
theorem without_filter {L ns : List Int} {n : Int} : (without L n).filter (fun x => decide (x ∉ ns)) = L.filter fun x => decide (x ∉ n :: ns) := by
  unfold without
  rw [List.filter_filter]
  refine List.filter_congr fun x _ => ?_
  by_cases h1 : x = n <;> by_cases h2 : x ∈ ns <;> simp [h1, h2]
theorem filter_nil {L : List Int} : L.filter (fun x => decide (x ∉ ([] : List Int))) = L := List.filter_eq_self.mpr fun x _ => by simp
theorem takeGo_gone : ∀ (f : Nat) {folk : List (List Int)} {L : List Int}, Ok folk L → isGone (takeGo folk f L) = true → Gone folk L ((takeGo folk f L).map (·.1))
  | 0, folk, L, o, hg => absurd (show false = true from hg) (by decide)
  | f + 1, folk, L, o, hg => by
    unfold takeGo at hg ⊢
    split at hg
    · exact absurd (show false = true from hg) (by decide)
    · rename_i hl
      rw [if_neg hl]
      have h0 : L ≠ [] := fun e => hl (by rw [e]; decide)
      have hnL := head_in o h0
      have hnl : (lasts folk L).headD 0 ∈ lasts folk L := by
        cases e : lasts folk L with
        | nil =>
          exfalso
          obtain ⟨r, hr, q, e'⟩ := head_last o h0
          have : lastOf r L ∈ lasts folk L := mem_sortD.mpr (List.mem_map.mpr ⟨r, hr, rfl⟩)
          rw [e] at this
          cases this
        | cons a t => simp
      generalize (lasts folk L).headD 0 = n at *
      split at hg
      · rename_i he
        rw [if_pos he]
        refine ⟨Nat.le_refl _, by show 1 < L.length; omega, fun m hm => ?_, by simp, fun k hk => ?_, fun m hm => ?_⟩
        · simp at hm
          rw [hm]
          exact hnL
        · have : k = 0 := by
            simp at hk
            exact hk
          subst this
          show n ∈ lasts folk (L.filter fun x => decide (x ∉ ([] : List Int)))
          rw [filter_nil]
          exact hnl
        · simp at hm
          subst hm
          show hangs folk (L.filter fun x => decide (x ∉ ([] : List Int))) n = []
          rw [filter_nil]
          exact he
      · rename_i he
        rw [if_neg he]
        have hg' : isGone (takeGo folk f (without L n)) = true := by
          unfold isGone at hg ⊢
          rw [List.getLast?_cons] at hg
          cases e : (takeGo folk f (without L n)).getLast? with
          | none =>
            rw [e] at hg
            exfalso
            have : (hangs folk L n).isEmpty = true := hg
            rw [List.isEmpty_iff] at this
            exact he this
          | some p =>
            rw [e] at hg
            exact hg
        obtain ⟨a, b, c, d, l, g⟩ := takeGo_gone f (o.without n) hg'
        have wl := without_len o.nd hnL
        rw [List.map_cons]
        generalize (takeGo folk f (without L n)).map (·.1) = ns at *
        refine ⟨by rw [List.length_cons]; omega, by rw [List.length_cons]; omega, fun m hm => ?_, List.nodup_cons.mpr ⟨fun h => (mem_without.mp (c n h)).2 rfl, d⟩, fun k hk => ?_, fun m hm => ?_⟩
        · rcases List.mem_cons.mp hm with q | q
          · rw [q]
            exact hnL
          · exact (mem_without.mp (c m q)).1
        · match k, hk with
          | 0, _ =>
            show n ∈ lasts folk (L.filter fun x => decide (x ∉ ([] : List Int)))
            rw [filter_nil]
            exact hnl
          | k + 1, hk =>
            have := l k (by rw [List.length_cons] at hk; omega)
            rw [without_filter] at this
            have hk' : k < ns.length := by rw [List.length_cons] at hk; omega
            show ns[k] ∈ lasts folk (L.filter fun x => decide (x ∉ (n :: ns).take (k + 1)))
            rw [List.take_succ_cons]
            exact this
        · have hne : ns ≠ [] := fun e => by rw [e, List.length_nil] at a; omega
          have hm' : ns.getLast? = some m := by
            rw [List.getLast?_cons] at hm
            cases e : ns.getLast? with
            | none => exact absurd (List.getLast?_eq_none_iff.mp e) hne
            | some p =>
              rw [e] at hm
              exact hm
          have := g m hm'
          rw [without_filter] at this
          rw [List.dropLast_cons_of_ne_nil hne]
          exact this
end K74
namespace K74
/-- a folk of these names -/
structure Rk (folk : List (List Int)) (names : List Int) : Prop where
  ne : folk ≠ []
  nm : names.Pairwise fun a b : Int => a < b
  pos : 1 ≤ names.length
  rk : ∀ r ∈ folk, r.Nodup ∧ ∀ x, x ∈ r ↔ x ∈ names
theorem Rk.nd {folk : List (List Int)} {names : List Int} (h : Rk folk names) : names.Nodup := sorted_nodup strictI h.nm
theorem Rk.ok {folk : List (List Int)} {names : List Int} (h : Rk folk names) : Ok folk names := ⟨h.ne, h.nd, fun r hr => ⟨(h.rk r hr).1, fun x hx => ((h.rk r hr).2 x).mpr hx⟩⟩
theorem Rk.sort {folk : List (List Int)} {names : List Int} (h : Rk folk names) {r : List Int} (hr : r ∈ folk) : sortI r = names := (sortD_of strictI h.nm fun x => ((h.rk r hr).2 x).symm).symm
theorem Rk.len {folk : List (List Int)} {names : List Int} (h : Rk folk names) {r : List Int} (hr : r ∈ folk) : r.length = names.length :=
  Nat.le_antisymm (nodup_sub_len (h.rk r hr).1 fun x hx => ((h.rk r hr).2 x).mp hx) (nodup_sub_len h.nd fun x hx => ((h.rk r hr).2 x).mpr hx)
theorem Rk.rest {folk : List (List Int)} {names : List Int} (h : Rk folk names) {r : List Int} (hr : r ∈ folk) : rest r names = r := List.filter_eq_self.mpr fun x hx => decide_eq_true (((h.rk r hr).2 x).mp hx)
theorem Rk.head {folk : List (List Int)} {names : List Int} (h : Rk folk names) : folk.headD [] ∈ folk := by
  cases e : folk with
  | nil => exact absurd e h.ne
  | cons r t => simp
theorem Rk.told {folk : List (List Int)} {names : List Int} (h : Rk folk names) : told folk = if isGone (takeGo folk names.length names) = true then .gone ((takeGo folk names.length names).map (·.1)) else .tree (sortT (tiesOf (takeGo folk names.length names))) := by
  unfold K74.told
  rw [h.sort h.head, h.len h.head]
theorem falls_mono {E E' : List Tie} {q : List Int} (hq : q.Nodup) (hE : ∀ t ∈ E, t ∈ E') (h : Falls E q) : Falls E' q := falls_of hq fun k h1 h2 x hx y hy => (h.conn hq h1 h2 x hx y hy).mono hE fun _ z => z
theorem isTree_of {names : List Int} {E : List Tie} (hn : names.Nodup) (h0 : 1 ≤ names.length) (hl : E.length + 1 = names.length) (hok : ∀ t ∈ E, t.1 < t.2 ∧ t.1 ∈ names ∧ t.2 ∈ names) (hs : E.Pairwise ltT) (hC : Conn E names) : isTree names E = true := by
  unfold isTree
  have hne : names ≠ [] := fun e => by rw [e, List.length_nil] at h0; omega
  rw [Bool.and_eq_true, Bool.and_eq_true, Bool.and_eq_true]
  refine ⟨⟨⟨decide_eq_true hl, ?_⟩, decide_eq_true (sortD_self strictT hs).symm⟩, (tog_iff hn hne).mpr hC⟩
  rw [List.all_eq_true]
  intro t ht
  obtain ⟨a, b, c⟩ := hok t ht
  rw [decide_eq_true a, decide_eq_true b, decide_eq_true c]
  rfl
structure IsTree (names : List Int) (E : List Tie) : Prop where
  len : E.length + 1 = names.length
  ok : ∀ t ∈ E, t.1 < t.2 ∧ t.1 ∈ names ∧ t.2 ∈ names
  srt : E.Pairwise ltT
  conn : names.Nodup → 1 ≤ names.length → Conn E names
theorem isTree_out {names : List Int} {E : List Tie} (h : isTree names E = true) : IsTree names E := by
  unfold isTree at h
  rw [Bool.and_eq_true, Bool.and_eq_true, Bool.and_eq_true] at h
  obtain ⟨⟨⟨a, b⟩, c⟩, d⟩ := h
  refine ⟨of_decide_eq_true a, fun t ht => ?_, ?_, fun hn h0 => ?_⟩
  · have := List.all_eq_true.mp b t ht
    simp only [Bool.and_eq_true, decide_eq_true_eq] at this
    exact ⟨this.1.1, this.1.2, this.2⟩
  · rw [of_decide_eq_true c]
    exact sortD_sorted strictT _
  · exact (tog_iff hn (fun e => by rw [e, List.length_nil] at h0; omega)).mp d
/-- T1: a tree that is told is one, and all fall on it -/
theorem told_tree_right {folk : List (List Int)} {names : List Int} (h : Rk folk names) {E : List Tie} (e : told folk = .tree E) : isTree names E = true ∧ ∀ r ∈ folk, apart E r = none := by
  rw [h.told] at e
  split at e
  · cases e
  · rename_i hg
    have hg' : isGone (takeGo folk names.length names) = false := by
      cases q : isGone (takeGo folk names.length names) with
      | false => rfl
      | true => exact absurd q hg
    injection e with e
    obtain ⟨a, b, c, d⟩ := takeGo_right names.length h.ok h.pos (Nat.le_succ _) hg'
    rw [← e]
    have mem : ∀ t, t ∈ sortT (tiesOf (takeGo folk names.length names)) ↔ t ∈ tiesOf (takeGo folk names.length names) := fun t => mem_sortD
    have hf : ∀ r ∈ folk, Falls (sortT (tiesOf (takeGo folk names.length names))) r := fun r hr => by
      have := d r hr
      rw [h.rest hr] at this
      exact falls_mono (h.rk r hr).1 (fun t ht => (mem t).mpr ht) this
    refine ⟨isTree_of h.nd h.pos ?_ (fun t ht => c t ((mem t).mp ht)) (sortD_sorted strictT _) ?_, fun r hr => apart_none.mpr (hf r hr)⟩
    · rw [show (sortT (tiesOf (takeGo folk names.length names))).length = _ from sortD_len strictT b]
      exact a
    · have hr := h.head
      have hl := h.len hr
      have hp := h.pos
      have := (hf _ hr).conn (h.rk _ hr).1 (k := (folk.headD []).length) (by omega) (Nat.le_refl _)
      rw [List.take_length] at this
      exact conn_set (fun x => (h.rk _ hr).2 x) this
/-- T2 -/
theorem told_gone_right {folk : List (List Int)} {names : List Int} (h : Rk folk names) {ns : List Int} (e : told folk = .gone ns) : Gone folk names ns := by
  rw [h.told] at e
  split at e
  · rename_i hg
    injection e with e
    rw [← e]
    exact takeGo_gone names.length h.ok hg
  · cases e
/-- T3: where all fall on some tree, a tree is told -/
theorem told_is_tree {folk : List (List Int)} {names : List Int} (h : Rk folk names) {E : List Tie} (hE : E.length + 1 = names.length) (hf : ∀ r ∈ folk, apart E r = none) : ∃ E', told folk = .tree E' := by
  have := takeGo_tree names.length h.ok (E := E) ⟨Nat.le_of_eq hE, fun r hr => by rw [h.rest hr]; exact apart_none.mp (hf r hr)⟩
  rw [h.told, if_neg (by rw [not_gone this]; decide)]
  exact ⟨_, rfl⟩
/-! ### the drawn tree -/
structure Hung (order : List Int) (k : Nat) (E : List Tie) : Prop where
  len : E.length + 1 = k
  le : k ≤ order.length
  nd : E.Nodup
  ok : ∀ t ∈ E, t.1 < t.2 ∧ t.1 ∈ order.take k ∧ t.2 ∈ order.take k
  conn : Conn E (order.take k)
theorem hung_one {order : List Int} (h : 1 ≤ order.length) : Hung order 1 [] := by
  refine ⟨rfl, h, List.nodup_nil, fun t ht => (nomatch ht), ?_⟩
  intro x hx y hy
  rw [one_of (l := order.take 1) (by rw [List.length_take]; omega) hx hy]
  exact .refl
theorem tie_lt {a b : Int} (h : a ≠ b) : (tie a b).1 < (tie a b).2 := by
  unfold tie
  show min a b < max a b
  omega
theorem tie_or (a b : Int) : tie a b = (a, b) ∨ tie a b = (b, a) := by
  unfold tie
  rcases Int.le_total a b with q | q
  · rw [Int.min_eq_left q, Int.max_eq_right q]
    exact .inl rfl
  · rw [Int.min_eq_right q, Int.max_eq_left q]
    exact .inr rfl
theorem hung_step {order : List Int} (hn : order.Nodup) {k j : Nat} {E : List Tie} (h : Hung order k E) (hk : k < order.length) (hj : j < k) {a b : Int} (ha : order[k]? = some a) (hb : order[j]? = some b) : Hung order (k + 1) (E ++ [tie a b]) := by
  have hj' : j < order.length := by omega
  have ea : order[k] = a := by
    rw [List.getElem?_eq_getElem hk] at ha
    exact Option.some.inj ha
  have eb : order[j] = b := by
    rw [List.getElem?_eq_getElem hj'] at hb
    exact Option.some.inj hb
  have tk : order.take (k + 1) = order.take k ++ [a] := by rw [List.take_succ_eq_append_getElem hk, ea]
  have hbk : b ∈ order.take k := by
    rw [← eb]
    exact List.mem_take_iff_getElem.mpr ⟨j, by omega, rfl⟩
  have hak : a ∉ order.take k := fun q => by
    have nd := nodup_take (k + 1) hn
    rw [tk, List.nodup_append] at nd
    exact nd.2.2 a q a (by simp) rfl
  have hab : a ≠ b := fun q => hak (q ▸ hbk)
  have sub : ∀ x ∈ order.take k, x ∈ order.take (k + 1) := fun x hx => by rw [tk]; exact List.mem_append_left _ hx
  have ha1 : a ∈ order.take (k + 1) := by rw [tk]; simp
  have hte : (a, b) ∈ E ++ [tie a b] ∨ (b, a) ∈ E ++ [tie a b] := by
    rcases tie_or a b with e | e <;> rw [e]
    · exact .inl (by simp)
    · exact .inr (by simp)
  refine ⟨by rw [List.length_append, List.length_singleton, h.len], by omega, ?_, fun t ht => ?_, ?_⟩
  · rw [List.nodup_append]
    refine ⟨h.nd, by simp, fun t ht u hu e => ?_⟩
    rw [List.mem_singleton] at hu
    have := h.ok t ht
    rw [e, hu] at this
    rcases tie_or a b with q | q
    · rw [q] at this
      exact hak this.2.1
    · rw [q] at this
      exact hak this.2.2
  · rcases List.mem_append.mp ht with ht | ht
    · obtain ⟨x, y, z⟩ := h.ok t ht
      exact ⟨x, sub _ y, sub _ z⟩
    · rw [List.mem_singleton] at ht
      rw [ht]
      refine ⟨tie_lt hab, ?_⟩
      rcases tie_or a b with q | q <;> rw [q]
      · exact ⟨ha1, sub _ hbk⟩
      · exact ⟨sub _ hbk, ha1⟩
  · refine conn_of_head (a := b) fun x hx => ?_
    rw [tk] at hx
    rcases List.mem_append.mp hx with hx | hx
    · exact (h.conn b hbk x hx).mono (fun t ht => List.mem_append_left _ ht) sub
    · rw [List.mem_singleton] at hx
      rw [hx]
      exact Reach.one hte.symm (sub _ hbk) ha1
theorem hung_tree {order names : List Int} {E : List Tie} (hn : names.Nodup) (h0 : 1 ≤ names.length) (hm : ∀ x, x ∈ order ↔ x ∈ names) (hl : order.length = names.length) (h : Hung order order.length E) : isTree names (sortT E) = true := by
  have c := h.conn
  rw [List.take_length] at c
  have ok := h.ok
  rw [List.take_length] at ok
  refine isTree_of hn h0 ?_ (fun t ht => ?_) (sortD_sorted strictT _) ?_
  · rw [show (sortT E).length = _ from sortD_len strictT h.nd, h.len, hl]
  · obtain ⟨a, b, d⟩ := ok t (mem_sortD.mp ht)
    exact ⟨a, (hm _).mp b, (hm _).mp d⟩
  · intro x hx y hy
    exact (conn_set hm c x hx y hy).mono (fun t ht => mem_sortD.mpr ht) fun _ z => z
/-! ### growing along a tree -/
def nearOf (found : List Int) : List Tie → List Int
  | [] => []
  | t :: E => if decide (t.1 ∈ found) = decide (t.2 ∈ found) then nearOf found E else (if t.1 ∈ found then t.2 else t.1) :: nearOf found E
theorem nearOf_mem {found : List Int} : ∀ {E : List Tie} {x : Int}, x ∈ nearOf found E → x ∉ found ∧ ∃ t ∈ E, x = t.1 ∨ x = t.2
  | t :: E, x, h => by
    unfold nearOf at h
    split at h
    · obtain ⟨a, u, hu, b⟩ := nearOf_mem h
      exact ⟨a, u, List.mem_cons_of_mem _ hu, b⟩
    · rename_i ne
      rcases List.mem_cons.mp h with e | h
      · by_cases q : t.1 ∈ found
        · rw [if_pos q] at e
          refine ⟨fun z => ne ?_, t, List.mem_cons_self, .inr e⟩
          rw [decide_eq_true q, decide_eq_true (e ▸ z)]
        · rw [if_neg q] at e
          exact ⟨e ▸ q, t, List.mem_cons_self, .inl e⟩
      · obtain ⟨a, u, hu, b⟩ := nearOf_mem h
        exact ⟨a, u, List.mem_cons_of_mem _ hu, b⟩
theorem nearOf_nil {found : List Int} : ∀ {E : List Tie}, nearOf found E = [] → ∀ t ∈ E, decide (t.1 ∈ found) = decide (t.2 ∈ found)
  | t :: E, h, u, hu => by
    unfold nearOf at h
    split at h
    · rename_i e
      rcases List.mem_cons.mp hu with q | q
      · rw [q]
        exact e
      · exact nearOf_nil h u q
    · cases h
theorem near_some {names found : List Int} {E : List Tie} (hC : Conn E names) (hs : ∀ x ∈ found, x ∈ names) (hf : found.Nodup) {a : Int} (ha : a ∈ found) (hl : found.length < names.length) (hn : names.Nodup) : nearOf found E ≠ [] := fun e => by
  have := nearOf_nil e
  have all : ∀ x ∈ names, x ∈ found := fun x hx => closed_all (E := E) (S := names) (f := found) (a := a) (fun t ht => by
    cases q : fires names found t with
    | false => rfl
    | true =>
      exfalso
      have h1 := this t ht
      obtain ⟨_, h2⟩ := fires_iff.mp q
      rcases h2 with ⟨u, v⟩ | ⟨u, v⟩
      · rw [decide_eq_true u, decide_eq_false v] at h1
        cases h1
      · rw [decide_eq_false u, decide_eq_true v] at h1
        cases h1) ha (hC a (hs a ha) x hx)
  have := nodup_sub_len hn all
  omega
theorem grown {names found : List Int} {E : List Tie} (hE : ∀ t ∈ E, t.1 ∈ names ∧ t.2 ∈ names) (hs : ∀ x ∈ found, x ∈ names) (hf : found.Nodup) {x : Int} (hx : x ∈ nearOf found E) : (found ++ [x]).Nodup ∧ ∀ y ∈ found ++ [x], y ∈ names := by
  obtain ⟨a, t, ht, b⟩ := nearOf_mem hx
  constructor
  · rw [List.nodup_append]
    exact ⟨hf, by simp, fun p hp q hq e => by rw [List.mem_singleton] at hq; exact a (hq ▸ e ▸ hp)⟩
  · intro y hy
    rcases List.mem_append.mp hy with hy | hy
    · exact hs y hy
    · rw [List.mem_singleton] at hy
      rw [hy]
      rcases b with b | b <;> rw [b]
      · exact (hE t ht).1
      · exact (hE t ht).2
/-! ### the star -/
def star (names : List Int) (c : Int) : List Tie := names.map fun n => (n, c)
theorem star_conn {names P : List Int} {c : Int} (hP : ∀ x ∈ P, x ∈ names ∨ x = c) (hc : c ∈ P) : Conn (star names c) P := by
  refine conn_of_head (a := c) fun x hx => ?_
  rcases hP x hx with h | h
  · exact Reach.one (.inr (List.mem_map.mpr ⟨x, h, rfl⟩)) hc hx
  · rw [h]
    exact .refl
theorem star_tree {names : List Int} {c : Int} (hn : names.Pairwise fun a b : Int => a < b) (hc : ∀ x ∈ names, x < c) : isTree (names ++ [c]) (star names c) = true := by
  have nd : (names ++ [c]).Nodup := by
    rw [List.nodup_append]
    exact ⟨sorted_nodup strictI hn, by simp, fun a ha b hb e => by rw [List.mem_singleton] at hb; have := hc a ha; omega⟩
  refine isTree_of nd (by rw [List.length_append, List.length_singleton]; omega) ?_ (fun t ht => ?_) ?_ ?_
  · unfold star
    rw [List.length_map, List.length_append, List.length_singleton]
  · obtain ⟨n, hn, e⟩ := List.mem_map.mp ht
    rw [← e]
    exact ⟨hc n hn, List.mem_append_left _ hn, by simp⟩
  · unfold star
    rw [List.pairwise_map]
    exact hn.imp fun {a b} q => .inl q
  · exact star_conn (fun x hx => (List.mem_append.mp hx).imp id fun h => List.mem_singleton.mp h) (by simp)
def beside (r : List Int) (c : Int) (at_ : Nat) : List Int := r.take at_ ++ [c] ++ r.drop at_
theorem mem_beside {r : List Int} {c x : Int} {k : Nat} : x ∈ beside r c k ↔ x ∈ r ∨ x = c := by
  unfold beside
  constructor
  · intro h
    rcases List.mem_append.mp h with h | h
    · rcases List.mem_append.mp h with h | h
      · exact .inl (List.mem_of_mem_take h)
      · exact .inr (List.mem_singleton.mp h)
    · exact .inl (List.mem_of_mem_drop h)
  · intro h
    rcases h with h | h
    · rw [← List.take_append_drop k r] at h
      rcases List.mem_append.mp h with h | h
      · exact List.mem_append_left _ (List.mem_append_left _ h)
      · exact List.mem_append_right _ h
    · rw [h]
      simp
theorem beside_nd {r : List Int} {c : Int} {k : Nat} (h : r.Nodup) (hc : c ∉ r) : (beside r c k).Nodup := by
  have h1 : (r.take k ++ r.drop k).Nodup := by rw [List.take_append_drop]; exact h
  obtain ⟨a, b, d⟩ := List.nodup_append.mp h1
  unfold beside
  rw [List.append_assoc, List.nodup_append]
  refine ⟨a, ?_, fun x hx y hy e => ?_⟩
  · show (c :: r.drop k).Nodup
    exact List.nodup_cons.mpr ⟨fun z => hc (List.mem_of_mem_drop z), b⟩
  · rcases List.mem_cons.mp (show y ∈ c :: r.drop k from hy) with q | q
    · exact hc (by rw [← q, ← e]; exact List.mem_of_mem_take hx)
    · exact d x hx y q e
theorem beside_falls {names r : List Int} {c : Int} {k : Nat} (hr : r.Nodup) (hc : c ∉ r) (hm : ∀ x ∈ r, x ∈ names) (hk : k ≤ 1) : apart (star names c) (beside r c k) = none := by
  refine apart_none.mpr (falls_of (beside_nd hr hc) fun m m1 m2 => ?_)
  by_cases h : c ∈ (beside r c k).take m
  · refine star_conn (fun x hx => ?_) h
    exact (mem_beside.mp (List.mem_of_mem_take hx)).imp (hm x) id
  · have : ((beside r c k).take m).length ≤ 1 := by
      rw [List.length_take]
      rcases Nat.lt_or_ge m 2 with q | q
      · omega
      · exfalso
        apply h
        have : k = 0 ∨ k = 1 := by omega
        rcases this with e | e <;> subst e
        · unfold beside
          obtain ⟨m, rfl⟩ : ∃ m', m = m' + 1 := ⟨m - 1, by omega⟩
          simp
        · unfold beside
          obtain ⟨m, rfl⟩ : ∃ m', m = m' + 2 := ⟨m - 2, by omega⟩
          cases r with
          | nil => simp
          | cons a t => simp
    intro x hx y hy
    rw [one_of this hx hy]
    exact .refl
theorem beside_rk {folk folk' : List (List Int)} {names : List Int} {c : Int} (h : Rk folk names) (hc : ∀ x ∈ names, x < c) (hne : folk' ≠ []) (hf : ∀ q ∈ folk', ∃ r ∈ folk, ∃ k, q = beside r c k) : Rk folk' (names ++ [c]) := by
  refine ⟨hne, ?_, by rw [List.length_append, List.length_singleton]; omega, fun q hq => ?_⟩
  · rw [List.pairwise_append]
    exact ⟨h.nm, by simp, fun a ha b hb => by rw [List.mem_singleton] at hb; rw [hb]; exact hc a ha⟩
  · obtain ⟨r, hr, k, e⟩ := hf q hq
    obtain ⟨a, b⟩ := h.rk r hr
    have hcr : c ∉ r := fun z => by
      have := hc c ((b c).mp z)
      omega
    rw [e]
    refine ⟨beside_nd a hcr, fun x => ?_⟩
    rw [mem_beside, List.mem_append, List.mem_singleton, b]
/-! ### all trees -/
theorem sort_take {E : List Tie} (hs : E.Pairwise ltT) {k : Nat} (hk : k < E.length) : sortT (E.take k ++ [E[k]]) = E.take (k + 1) := by
  rw [← List.take_succ_eq_append_getElem hk]
  exact sortD_self strictT (List.Pairwise.sublist (List.take_sublist _ _) hs)
theorem tree_noRing {names : List Int} {E : List Tie} (hn : names.Nodup) (h0 : 1 ≤ names.length) (h : isTree names E = true) (k : Nat) : noRing (E.take k) id = true := by
  have t := isTree_out h
  exact noRing_take E id k (conn_noRing hn (t.conn hn h0) (Nat.le_of_eq t.len))
end K74
namespace K74
open PySem PySem.Spec PyProof.Rows L2
def topS (i : Nat) : Stmt := PySem.Challenge.pw_ontheline_k74_whole_tree_or_names_gone.main.body.getD i (.Pass ⟨0, 0, 0, 0⟩)
abbrev s_is_number : Stmt := topS 8
abbrev n_is_number : List Str := ["thing"]
abbrev p_is_number : List Str := ["thing"]
theorem c_is_number : FnScope n_is_number p_is_number (defScope s_is_number) := ⟨rfl, rfl, rfl, by decide +kernel, rfl, by decide +kernel, by decide +kernel⟩
abbrev s_are_unlike_names : Stmt := topS 9
abbrev n_are_unlike_names : List Str := ["thing", "name"]
abbrev p_are_unlike_names : List Str := ["thing"]
theorem c_are_unlike_names : FnScope n_are_unlike_names p_are_unlike_names (defScope s_are_unlike_names) := ⟨rfl, rfl, rfl, by decide +kernel, rfl, by decide +kernel, by decide +kernel⟩
abbrev s_is_ranking : Stmt := topS 10
abbrev n_is_ranking : List Str := ["thing"]
abbrev p_is_ranking : List Str := ["thing"]
theorem c_is_ranking : FnScope n_is_ranking p_is_ranking (defScope s_is_ranking) := ⟨rfl, rfl, rfl, by decide +kernel, rfl, by decide +kernel, by decide +kernel⟩
abbrev s_is_folk : Stmt := topS 11
abbrev n_is_folk : List Str := ["thing", "ranking"]
abbrev p_is_folk : List Str := ["thing"]
theorem c_is_folk : FnScope n_is_folk p_is_folk (defScope s_is_folk) := ⟨rfl, rfl, rfl, by decide +kernel, rfl, by decide +kernel, by decide +kernel⟩
abbrev s_must_be_ranking : Stmt := topS 12
abbrev n_must_be_ranking : List Str := ["ranking"]
abbrev p_must_be_ranking : List Str := ["ranking"]
theorem c_must_be_ranking : FnScope n_must_be_ranking p_must_be_ranking (defScope s_must_be_ranking) := ⟨rfl, rfl, rfl, by decide +kernel, rfl, by decide +kernel, by decide +kernel⟩
abbrev s_must_be_folk : Stmt := topS 13
abbrev n_must_be_folk : List Str := ["folk"]
abbrev p_must_be_folk : List Str := ["folk"]
theorem c_must_be_folk : FnScope n_must_be_folk p_must_be_folk (defScope s_must_be_folk) := ⟨rfl, rfl, rfl, by decide +kernel, rfl, by decide +kernel, by decide +kernel⟩
abbrev s_is_tie : Stmt := topS 15
abbrev n_is_tie : List Str := ["names", "thing"]
abbrev p_is_tie : List Str := ["names", "thing"]
theorem c_is_tie : FnScope n_is_tie p_is_tie (defScope s_is_tie) := ⟨rfl, rfl, rfl, by decide +kernel, rfl, by decide +kernel, by decide +kernel⟩
abbrev s_reached : Stmt := topS 16
abbrev n_reached : List Str := ["ties", "some", "first", "found", "many", "one", "other", "name"]
abbrev p_reached : List Str := ["ties", "some", "first"]
theorem c_reached : FnScope n_reached p_reached (defScope s_reached) := ⟨rfl, rfl, rfl, by decide +kernel, rfl, by decide +kernel, by decide +kernel⟩
abbrev s_hang_together : Stmt := topS 17
abbrev n_hang_together : List Str := ["ties", "some"]
abbrev p_hang_together : List Str := ["ties", "some"]
theorem c_hang_together : FnScope n_hang_together p_hang_together (defScope s_hang_together) := ⟨rfl, rfl, rfl, by decide +kernel, rfl, by decide +kernel, by decide +kernel⟩
abbrev s_is_right_tree : Stmt := topS 18
abbrev n_is_right_tree : List Str := ["names", "thing", "tie"]
abbrev p_is_right_tree : List Str := ["names", "thing"]
theorem c_is_right_tree : FnScope n_is_right_tree p_is_right_tree (defScope s_is_right_tree) := ⟨rfl, rfl, rfl, by decide +kernel, rfl, by decide +kernel, by decide +kernel⟩
abbrev s_must_be_tree : Stmt := topS 19
abbrev n_must_be_tree : List Str := ["names", "tree"]
abbrev p_must_be_tree : List Str := ["names", "tree"]
theorem c_must_be_tree : FnScope n_must_be_tree p_must_be_tree (defScope s_must_be_tree) := ⟨rfl, rfl, rfl, by decide +kernel, rfl, by decide +kernel, by decide +kernel⟩
abbrev s_apart_at : Stmt := topS 20
abbrev n_apart_at : List Str := ["tree", "ranking", "many"]
abbrev p_apart_at : List Str := ["tree", "ranking"]
theorem c_apart_at : FnScope n_apart_at p_apart_at (defScope s_apart_at) := ⟨rfl, rfl, rfl, by decide +kernel, rfl, by decide +kernel, by decide +kernel⟩
abbrev s_first_apart : Stmt := topS 21
abbrev n_first_apart : List Str := ["tree", "ranking"]
abbrev p_first_apart : List Str := ["tree", "ranking"]
theorem c_first_apart : FnScope n_first_apart p_first_apart (defScope s_first_apart) := ⟨rfl, rfl, rfl, by decide +kernel, rfl, by decide +kernel, by decide +kernel⟩
abbrev s_allowed : Stmt := topS 22
abbrev n_allowed : List Str := ["ranking", "left", "name", "rest", "at", "one"]
abbrev p_allowed : List Str := ["ranking", "left", "name"]
theorem c_allowed : FnScope n_allowed p_allowed (defScope s_allowed) := ⟨rfl, rfl, rfl, by decide +kernel, rfl, by decide +kernel, by decide +kernel⟩
abbrev s_hangs_at : Stmt := topS 23
abbrev n_hangs_at : List Str := ["folk", "left", "name", "found", "ranking", "some", "other"]
abbrev p_hangs_at : List Str := ["folk", "left", "name"]
theorem c_hangs_at : FnScope n_hangs_at p_hangs_at (defScope s_hangs_at) := ⟨rfl, rfl, rfl, by decide +kernel, rfl, by decide +kernel, by decide +kernel⟩
abbrev s_lasts : Stmt := topS 24
abbrev n_lasts : List Str := ["folk", "left", "ranking", "name"]
abbrev p_lasts : List Str := ["folk", "left"]
theorem c_lasts : FnScope n_lasts p_lasts (defScope s_lasts) := ⟨rfl, rfl, rfl, by decide +kernel, rfl, by decide +kernel, by decide +kernel⟩
abbrev s_taken_out : Stmt := topS 25
abbrev n_taken_out : List Str := ["folk", "left", "found", "name", "some", "one"]
abbrev p_taken_out : List Str := ["folk"]
theorem c_taken_out : FnScope n_taken_out p_taken_out (defScope s_taken_out) := ⟨rfl, rfl, rfl, by decide +kernel, rfl, by decide +kernel, by decide +kernel⟩
abbrev s_tie_of : Stmt := topS 26
abbrev n_tie_of : List Str := ["one", "other"]
abbrev p_tie_of : List Str := ["one", "other"]
theorem c_tie_of : FnScope n_tie_of p_tie_of (defScope s_tie_of) := ⟨rfl, rfl, rfl, by decide +kernel, rfl, by decide +kernel, by decide +kernel⟩
abbrev s_tree_told : Stmt := topS 27
abbrev n_tree_told : List Str := ["folk", "rows", "name", "some"]
abbrev p_tree_told : List Str := ["folk"]
theorem c_tree_told : FnScope n_tree_told p_tree_told (defScope s_tree_told) := ⟨rfl, rfl, rfl, by decide +kernel, rfl, by decide +kernel, by decide +kernel⟩
abbrev s_L_mix : Stmt := topS 29
abbrev n_L_mix : List Str := ["_law_number", "_law_k", "_law_mixed"]
abbrev p_L_mix : List Str := ["_law_number", "_law_k"]
theorem c_L_mix : FnScope n_L_mix p_L_mix (defScope s_L_mix) := ⟨rfl, rfl, rfl, by decide +kernel, rfl, by decide +kernel, by decide +kernel⟩
abbrev s_L_left : Stmt := topS 30
abbrev n_L_left : List Str := ["_law_cell"]
abbrev p_L_left : List Str := ["_law_cell"]
theorem c_L_left : FnScope n_L_left p_L_left (defScope s_L_left) := ⟨rfl, rfl, rfl, by decide +kernel, rfl, by decide +kernel, by decide +kernel⟩
abbrev s_L_draw : Stmt := topS 31
abbrev n_L_draw : List Str := ["_law_left_here", "_law_base", "_law_mixed", "_law_digit"]
abbrev p_L_draw : List Str := ["_law_left_here", "_law_base"]
theorem c_L_draw : FnScope n_L_draw p_L_draw (defScope s_L_draw) := ⟨rfl, rfl, rfl, by decide +kernel, rfl, by decide +kernel, by decide +kernel⟩
abbrev s_L_names : Stmt := topS 32
abbrev n_L_names : List Str := ["_law_left_here", "_law_many", "_law_far", "_law_found", "_law_last", "_law_k"]
abbrev p_L_names : List Str := ["_law_left_here", "_law_many"]
theorem c_L_names : FnScope n_L_names p_L_names (defScope s_L_names) := ⟨rfl, rfl, rfl, by decide +kernel, rfl, by decide +kernel, by decide +kernel⟩
abbrev s_L_shuffled : Stmt := topS 33
abbrev n_L_shuffled : List Str := ["_law_left_here", "_law_things", "_law_found", "_law_thing"]
abbrev p_L_shuffled : List Str := ["_law_left_here", "_law_things"]
theorem c_L_shuffled : FnScope n_L_shuffled p_L_shuffled (defScope s_L_shuffled) := ⟨rfl, rfl, rfl, by decide +kernel, rfl, by decide +kernel, by decide +kernel⟩
abbrev s_L_tree : Stmt := topS 34
abbrev n_L_tree : List Str := ["_law_left_here", "_law_names_here", "_law_order", "_law_way", "_law_found", "_law_k", "_law_other"]
abbrev p_L_tree : List Str := ["_law_left_here", "_law_names_here"]
theorem c_L_tree : FnScope n_L_tree p_L_tree (defScope s_L_tree) := ⟨rfl, rfl, rfl, by decide +kernel, rfl, by decide +kernel, by decide +kernel⟩
abbrev s_L_falling : Stmt := topS 35
abbrev n_L_falling : List Str := ["_law_left_here", "_law_names_here", "_law_tree_here", "_law_found", "_law_near", "_law_one", "_law_other"]
abbrev p_L_falling : List Str := ["_law_left_here", "_law_names_here", "_law_tree_here"]
theorem c_L_falling : FnScope n_L_falling p_L_falling (defScope s_L_falling) := ⟨rfl, rfl, rfl, by decide +kernel, rfl, by decide +kernel, by decide +kernel⟩
abbrev s_L_folk : Stmt := topS 36
abbrev n_L_folk : List Str := ["_law_left_here", "_law_names_here", "_law_tree_here", "_law_way", "_law_folk_here", "_law_hand", "_law_ranking", "_law_at"]
abbrev p_L_folk : List Str := ["_law_left_here", "_law_names_here", "_law_tree_here"]
theorem c_L_folk : FnScope n_L_folk p_L_folk (defScope s_L_folk) := ⟨rfl, rfl, rfl, by decide +kernel, rfl, by decide +kernel, by decide +kernel⟩
abbrev s_L_together : Stmt := topS 37
abbrev n_L_together : List Str := ["_law_tree_here", "_law_some", "_law_found", "_law_turn", "_law_one", "_law_other", "_law_name"]
abbrev p_L_together : List Str := ["_law_tree_here", "_law_some"]
theorem c_L_together : FnScope n_L_together p_L_together (defScope s_L_together) := ⟨rfl, rfl, rfl, by decide +kernel, rfl, by decide +kernel, by decide +kernel⟩
abbrev s_L_apart : Stmt := topS 38
abbrev n_L_apart : List Str := ["_law_tree_here", "_law_ranking", "_law_many"]
abbrev p_L_apart : List Str := ["_law_tree_here", "_law_ranking"]
theorem c_L_apart : FnScope n_L_apart p_L_apart (defScope s_L_apart) := ⟨rfl, rfl, rfl, by decide +kernel, rfl, by decide +kernel, by decide +kernel⟩
abbrev s_L_whole : Stmt := topS 39
abbrev n_L_whole : List Str := ["_law_thing"]
abbrev p_L_whole : List Str := ["_law_thing"]
theorem c_L_whole : FnScope n_L_whole p_L_whole (defScope s_L_whole) := ⟨rfl, rfl, rfl, by decide +kernel, rfl, by decide +kernel, by decide +kernel⟩
abbrev s_L_is_tree : Stmt := topS 40
abbrev n_L_is_tree : List Str := ["_law_names_here", "_law_thing", "_law_tie"]
abbrev p_L_is_tree : List Str := ["_law_names_here", "_law_thing"]
theorem c_L_is_tree : FnScope n_L_is_tree p_L_is_tree (defScope s_L_is_tree) := ⟨rfl, rfl, rfl, by decide +kernel, rfl, by decide +kernel, by decide +kernel⟩
abbrev s_L_hangs : Stmt := topS 41
abbrev n_L_hangs : List Str := ["_law_folk_here", "_law_left_here", "_law_name", "_law_found", "_law_ranking", "_law_rest", "_law_at", "_law_some", "_law_other", "_law_one"]
abbrev p_L_hangs : List Str := ["_law_folk_here", "_law_left_here", "_law_name"]
theorem c_L_hangs : FnScope n_L_hangs p_L_hangs (defScope s_L_hangs) := ⟨rfl, rfl, rfl, by decide +kernel, rfl, by decide +kernel, by decide +kernel⟩
abbrev s_L_lasts : Stmt := topS 42
abbrev n_L_lasts : List Str := ["_law_folk_here", "_law_left_here", "_law_ranking", "_law_name"]
abbrev p_L_lasts : List Str := ["_law_folk_here", "_law_left_here"]
theorem c_L_lasts : FnScope n_L_lasts p_L_lasts (defScope s_L_lasts) := ⟨rfl, rfl, rfl, by decide +kernel, rfl, by decide +kernel, by decide +kernel⟩
abbrev s_L_wrong : Stmt := topS 43
abbrev n_L_wrong : List Str := ["_law_folk_here", "_law_paper", "_law_names_here", "_law_thing", "_law_late", "_law_name", "_law_left_here", "_law_k", "_law_some", "_law_hand", "_law_one"]
abbrev p_L_wrong : List Str := ["_law_folk_here", "_law_paper"]
theorem c_L_wrong : FnScope n_L_wrong p_L_wrong (defScope s_L_wrong) := ⟨rfl, rfl, rfl, by decide +kernel, rfl, by decide +kernel, by decide +kernel⟩
abbrev s_L_all_trees : Stmt := topS 44
abbrev n_L_all_trees : List Str := ["_law_names_here", "_law_found", "_law_k", "_law_longer", "_law_tree_here", "_law_one", "_law_other", "_law_more"]
abbrev p_L_all_trees : List Str := ["_law_names_here"]
theorem c_L_all_trees : FnScope n_L_all_trees p_L_all_trees (defScope s_L_all_trees) := ⟨rfl, rfl, rfl, by decide +kernel, rfl, by decide +kernel, by decide +kernel⟩
abbrev s_L_no_ring : Stmt := topS 45
abbrev n_L_no_ring : List Str := ["_law_ties", "_law_names_here", "_law_name", "_law_parts", "_law_one", "_law_other", "_law_old"]
abbrev p_L_no_ring : List Str := ["_law_ties", "_law_names_here"]
theorem c_L_no_ring : FnScope n_L_no_ring p_L_no_ring (defScope s_L_no_ring) := ⟨rfl, rfl, rfl, by decide +kernel, rfl, by decide +kernel, by decide +kernel⟩
abbrev s_L_copied : Stmt := topS 46
abbrev n_L_copied : List Str := ["_law_thing", "_law_part"]
abbrev p_L_copied : List Str := ["_law_thing"]
theorem c_L_copied : FnScope n_L_copied p_L_copied (defScope s_L_copied) := ⟨rfl, rfl, rfl, by decide +kernel, rfl, by decide +kernel, by decide +kernel⟩
abbrev s_L_emptied : Stmt := topS 47
abbrev n_L_emptied : List Str := ["_law_thing", "_law_part"]
abbrev p_L_emptied : List Str := ["_law_thing"]
theorem c_L_emptied : FnScope n_L_emptied p_L_emptied (defScope s_L_emptied) := ⟨rfl, rfl, rfl, by decide +kernel, rfl, by decide +kernel, by decide +kernel⟩
abbrev s_L_beside_one : Stmt := topS 48
abbrev n_L_beside_one : List Str := ["_law_folk_here", "_law_names_here", "_law_left_here", "_law_centre", "_law_found", "_law_ranking", "_law_at", "_law_star", "_law_name"]
abbrev p_L_beside_one : List Str := ["_law_folk_here", "_law_names_here", "_law_left_here"]
theorem c_L_beside_one : FnScope n_L_beside_one p_L_beside_one (defScope s_L_beside_one) := ⟨rfl, rfl, rfl, by decide +kernel, rfl, by decide +kernel, by decide +kernel⟩
abbrev s_law : Stmt := topS 49
abbrev n_law : List Str := ["_law_script", "_law_cell", "_law_left_here", "_law_names_here", "_law_tree_here", "_law_folk_here", "_law_handed", "_law_found", "_law_fall", "_law_kept", "_law_every", "_law_ranking", "_law_some"]
abbrev p_law : List Str := ["_law_script"]
theorem c_law : FnScope n_law p_law (defScope s_law) := ⟨rfl, rfl, rfl, by decide +kernel, rfl, by decide +kernel, by decide +kernel⟩

/-! ### what is known -/
/-- the built-ins that the text names are still there; the two constants -/
structure Txt (mg : Str → Option Value) : Prop where
  isi : mg "isinstance" = none
  int : mg "int" = none
  bool : mg "bool" = none
  list : mg "list" = none
  tuple : mg "tuple" = none
  set : mg "set" = none
  dict : mg "dict" = none
  all : mg "all" = none
  len : mg "len" = none
  sorted : mg "sorted" = none
  range : mg "range" = none
  min : mg "min" = none
  max : mg "max" = none
  enum : mg "enumerate" = none
  names : ∃ t, mg "MOST_NAMES" = some (.int 10 t)
  hands : ∃ t, mg "MOST_HANDS" = some (.int 20 t)
/-- the def st stands behind the name x -/
def Std (K : PySem.W.Frag) (mg : Str → Option Value) (x : Str) (st : Stmt) : Prop := ∃ (f : Addr) (fd : FuncData), Fun K x x st f fd ∧ mg x = some (.ref f)
/-- the def behind the name x keeps the promise sp at the level k -/
def Kn (P : Program) (w : World) (K : PySem.W.Frag) (mg : Str → Option Value) (base : Heap) (k : Nat) (x : Str) (ps : List Str) (sp : Sp) : Prop :=
  ∃ (f : Addr) (fd : FuncData), FnOk P w K mg base CX0 k f fd ps sp ∧ Binds K fd ps [] ∧ mg x = some (.ref f) ∧ PySem.W.keepIn K (.ref f) = true
section
variable {P : Program} {w : World} {K : PySem.W.Frag} {mg : Str → Option Value} {base : Heap}
theorem kn_mk {x : Str} {st : Stmt} {N ps : List Str} {k : Nat} {sp : Sp} (S : Std K mg x st) (sc : FnScope N ps (defScope st)) (len : ∀ vs H Q E, sp vs H Q E → vs.length = ps.length)
    (hb : ∀ (kV doc pm : Value) (an : Option Addr) (cdv ct : Value) (us : List Value), us.length = ps.length → bindArgs (PySem.W.fnOf x x (defArgs st) (defBody st) (defScope st) .none kV doc pm an cdv ct) ⟨us, []⟩ = pure (ps.zip us))
    (hbody : ∀ (f : Addr) (cdv : Value) (A : Around) (outer : List Env) (s : Shared) (H : Hp) (vs : List V) (Q : VK) (E : XK), Room k (A.deeper (envOfC x (defScope st) s.heap.objs.size f cdv)) → sp vs H Q E →
      ∃ t, PSs (cxOf CX0 P w K mg base N x (defScope st) f cdv A outer s H E).nox (defBody st) t ∧ t { nx := fun _ H' => Q .non H', rt := Q } (start N vs) H) : Kn P w K mg base (k + 1) x ps sp := by
  obtain ⟨f, fd, F, g⟩ := S
  exact ⟨f, fd, F.ok sc len fun cdv A outer s H vs Q E hr h => hbody f cdv A outer s H vs Q E hr h, F.binds hb, g, F.kp⟩
end

/-! ### heaps -/
theorem same_upd {H : Hp} {p : Addr} {o : HO} (h : H p = none) : Same H (upd H p o) := fun b x e => by
  rw [upd_ne (ne_of_none e h)]
  exact e
/-- all but a is as it was -/
def SameX (a : Addr) (H H' : Hp) : Prop := ∀ b o, b ≠ a → H b = some o → H' b = some o
theorem SameX.refl (a : Addr) (H : Hp) : SameX a H H := fun _ _ _ h => h
theorem SameX.trans {a : Addr} {H H1 H2 : Hp} (x : SameX a H H1) (y : SameX a H1 H2) : SameX a H H2 := fun b o n h => y b o n (x b o n h)
theorem same_toX {a : Addr} {H H' : Hp} (x : Same H H') : SameX a H H' := fun b o _ h => x b o h
theorem sameX_upd {a : Addr} {H : Hp} {o : HO} : SameX a H (upd H a o) := fun b u n h => by
  rw [upd_ne n]
  exact h
/-- all but D is as it was; D is new -/
theorem same_put {H H1 : Hp} {D : Addr} {o : HO} (s : Same H H1) (n : H D = none) : Same H (upd H1 D o) := fun b x e => by
  rw [upd_ne (ne_of_none e n)]
  exact s b x e

/-! ### relations of data -/
abbrev Rel (α : Type) := Hp → V → α → Prop
def isInt : Rel Int := fun _ v i => v = .int i
def isTie : Rel Tie := fun H v t => ∃ p, v = .ref p ∧ H p = some (.tup [.int t.1, .int t.2])
def isLst {α : Type} (R : Rel α) : Rel (List α) := fun H v xs => ∃ a vs, v = .ref a ∧ H a = some (.lst vs) ∧ Paired (R H) vs xs
def Mono {α : Type} (R : Rel α) : Prop := ∀ H H' v x, Same H H' → R H v x → R H' v x
theorem mono_int : Mono isInt := fun _ _ _ _ _ h => h
theorem mono_tie : Mono isTie := fun _ _ _ _ s ⟨p, e, h⟩ => ⟨p, e, s _ _ h⟩
theorem paired_mono {α β : Type} {R S : α → β → Prop} (h : ∀ a b, R a b → S a b) : ∀ {xs : List α} {ys : List β}, Paired R xs ys → Paired S xs ys
  | _, _, .nil => .nil
  | _, _, .cons r t => .cons (h _ _ r) (paired_mono h t)
theorem mono_lst {α : Type} {R : Rel α} (m : Mono R) : Mono (isLst R) := fun _ _ _ _ s ⟨a, vs, e, h, p⟩ => ⟨a, vs, e, s _ _ h, paired_mono (fun _ _ r => m _ _ _ _ s r) p⟩
theorem paired_int {H : Hp} : ∀ {vs : List V} {ns : List Int}, Paired (isInt H) vs ns → vs = ns.map V.int
  | _, _, .nil => rfl
  | _, _, .cons r t => by rw [show _ = V.int _ from r, paired_int t]; rfl
theorem int_paired {H : Hp} : ∀ (ns : List Int), Paired (isInt H) (ns.map V.int) ns
  | [] => .nil
  | n :: ns => .cons rfl (int_paired ns)
theorem paired_len {α β : Type} {R : α → β → Prop} : ∀ {xs : List α} {ys : List β}, Paired R xs ys → xs.length = ys.length
  | _, _, .nil => rfl
  | _, _, .cons _ t => by rw [List.length_cons, List.length_cons, paired_len t]
theorem paired_get {α β : Type} {R : α → β → Prop} : ∀ {xs : List α} {ys : List β} {i : Nat} {x : α}, Paired R xs ys → xs[i]? = some x → ∃ y, ys[i]? = some y ∧ R x y
  | _, _, i, _, .nil, e => by simp at e
  | _, _, 0, _, .cons r _, e => by
    simp at e
    subst e
    exact ⟨_, rfl, r⟩
  | _, _, i + 1, x, .cons _ t, e => by
    obtain ⟨y, h1, h2⟩ := paired_get (i := i) (x := x) t (by simpa using e)
    exact ⟨y, by simpa using h1, h2⟩
theorem paired_get' {α β : Type} {R : α → β → Prop} : ∀ {xs : List α} {ys : List β} {i : Nat} {y : β}, Paired R xs ys → ys[i]? = some y → ∃ x, xs[i]? = some x ∧ R x y
  | _, _, i, _, .nil, e => by simp at e
  | _, _, 0, _, .cons r _, e => by
    simp at e
    subst e
    exact ⟨_, rfl, r⟩
  | _, _, i + 1, y, .cons _ t, e => by
    obtain ⟨x, h1, h2⟩ := paired_get' (i := i) (y := y) t (by simpa using e)
    exact ⟨x, by simpa using h1, h2⟩
theorem paired_app {α β : Type} {R : α → β → Prop} : ∀ {xs xs' : List α} {ys ys' : List β}, Paired R xs ys → Paired R xs' ys' → Paired R (xs ++ xs') (ys ++ ys')
  | _, _, _, _, .nil, q => q
  | _, _, _, _, .cons r t, q => .cons r (paired_app t q)
theorem paired_take {α β : Type} {R : α → β → Prop} : ∀ (n : Nat) {xs : List α} {ys : List β}, Paired R xs ys → Paired R (xs.take n) (ys.take n)
  | 0, _, _, _ => by rw [List.take_zero, List.take_zero]; exact .nil
  | n + 1, _, _, .nil => .nil
  | n + 1, _, _, .cons r t => .cons r (paired_take n t)
theorem paired_mem {α β : Type} {R : α → β → Prop} {xs : List α} {ys : List β} (p : Paired R xs ys) {x : α} (h : x ∈ xs) : ∃ y ∈ ys, R x y := by
  obtain ⟨i, hi, e⟩ := List.getElem_of_mem h
  obtain ⟨y, e1, r⟩ := paired_get p (i := i) (x := x) (by rw [List.getElem?_eq_getElem hi, e])
  exact ⟨y, List.mem_of_getElem? e1, r⟩
/-- a list of ints -/
abbrev LI (H : Hp) (a : Addr) (ns : List Int) : Prop := H a = some (.lst (ns.map V.int))
theorem isLst_int {H : Hp} {v : V} {ns : List Int} (h : isLst isInt H v ns) : ∃ a, v = .ref a ∧ LI H a ns := by
  obtain ⟨a, vs, e, h, p⟩ := h
  rw [paired_int p] at h
  exact ⟨a, e, h⟩
theorem lst_int {H : Hp} {a : Addr} {ns : List Int} (h : LI H a ns) : isLst isInt H (.ref a) ns := ⟨a, _, rfl, h, int_paired ns⟩

/-! ### ints in lists -/
theorem flat_ints (ns : List Int) : (ns.map V.int).all flatV = true := by
  rw [List.all_eq_true]
  intro v hv
  obtain ⟨n, _, e⟩ := List.mem_map.mp hv
  rw [← e]
  rfl
theorem inV_ints (n : Int) (ns : List Int) : inV (.int n) (ns.map V.int) = decide (n ∈ ns) := by
  rw [Bool.eq_iff_iff, decide_eq_true_iff]
  unfold inV
  rw [List.any_eq_true]
  constructor
  · rintro ⟨v, hv, e⟩
    obtain ⟨m, hm, q⟩ := List.mem_map.mp hv
    rw [← q] at e
    have : m = n := by simpa [eqV] using e
    exact this ▸ hm
  · intro h
    exact ⟨.int n, List.mem_map.mpr ⟨n, h, rfl⟩, by simp [eqV]⟩
theorem r_in {K : PySem.W.Frag} {H : Hp} {p : Addr} {n : Int} {ns : List Int} {Q : VK} (h : LI H p ns) (q : Q (.bl (decide (n ∈ ns))) H) : rIn K false (.int n) (.ref p) H Q := by
  refine ⟨p, _, rfl, .inl (SqL.of h), rfl, flat_ints ns, ?_⟩
  rw [inV_ints]
  exact q
theorem r_notin {K : PySem.W.Frag} {H : Hp} {p : Addr} {n : Int} {ns : List Int} {Q : VK} (h : LI H p ns) (q : Q (.bl (decide (n ∉ ns))) H) : rIn K true (.int n) (.ref p) H Q := by
  refine ⟨p, _, rfl, .inl (SqL.of h), rfl, flat_ints ns, ?_⟩
  rw [inV_ints]
  simpa using q
theorem ints_len (ns : List Int) : (ns.map V.int).length = ns.length := List.length_map _
theorem line_of {n : Nat} (h : n ≤ 1000) : n ≤ sizeLine := Nat.le_of_lt (small1000 h)

/-! ### comprehensions -/
theorem lc_gen {K : PySem.W.Frag} {α β : Type} {R : Rel α} (S : Rel β) (mR : Mono R) {a D : Addr} {vs : List V} {xs : List α} (p : α → Bool) (f : α → β) {g : TG} {tt : TT} {te : TE} {ow : List Nat} {σ : L2.St} {H1 : Hp} {Qd : Hp → Prop}
    (hl : H1 a = some (.lst vs)) (hp : Paired (R H1) vs xs) (hD : H1 D = none) (hx : xs.length ≤ 1000000)
    (turn : ∀ x ∈ xs, ∀ (v : V) (H : Hp) (N : V → Hp → Prop) (M : Hp → Prop), Same H1 H → (∃ acc, H D = some (.lst acc)) → R H v x → (p x = true → ∀ y H', Same H H' → (∀ H2, SameX D H' H2 → S H2 y (f x)) → N y H') → (p x = false → ∀ H', Same H H' → M H') →
      g v (wipe σ ow) H fun σ2 H2 => wipe σ2 ow = wipe σ ow ∧ tt σ2 H2 fun b H3 => if b = true then te σ2 H3 N else M H3)
    (hd : ∀ H' ws, Same H1 H' → H' D = some (.lst ws) → Paired (S H') ws ((xs.filter p).map f) → Qd H') :
    ∃ W : Nat → Nat → Hp → Prop, (∃ m, W 0 m (upd H1 D (.lst []))) ∧ ∀ i m H, W i m H →
      ((Itl K a).stop i H ∧ Qd H) ∨ ((Itl K a).go i H ∧ ∃ Nx : Hp → Prop, (∀ H', Nx H' → ∃ m', m' < m ∧ W (i + 1) m' H') ∧ ∀ x H', (Itl K a).yld i H x H' → g x (wipe σ ow) H' fun σ2 H2 => wipe σ2 ow = wipe σ ow ∧ tt σ2 H2 fun b H3 =>
        if b = true then te σ2 H3 fun y H4 => ∃ acc, H4 D = some (.lst acc) ∧ acc.length < sizeLine ∧ Nx (upd H4 D (.lst (acc ++ [y]))) else Nx H3) := by
  have hlen := paired_len hp
  refine lc_list (K := K) (a := a) (xs := vs) (fun i H => Same H1 H ∧ ∃ ws, H D = some (.lst ws) ∧ ws.length ≤ i ∧ Paired (fun y b => ∀ H2, SameX D H H2 → S H2 y b) ws (((xs.take i).filter p).map f)) ⟨same_upd hD, [], upd_same, Nat.le_refl _, .nil⟩ (fun i H _ ⟨s, _⟩ => .inl (.inl (s _ _ hl))) (fun i v H hv hP => ?_) (fun H hP => ?_)
  · obtain ⟨s, ws, hw, hwl, hS⟩ := hP
    obtain ⟨x, ex, rx⟩ := paired_get hp hv
    have hi : i < xs.length := (List.getElem?_eq_some_iff.mp ex).1
    have et : xs.take (i + 1) = xs.take i ++ [x] := by
      rw [List.take_succ_eq_append_getElem hi, (List.getElem?_eq_some_iff.mp ex).2]
    refine turn x (List.mem_of_getElem? ex) v H _ _ s ⟨_, hw⟩ (mR _ _ _ _ s rx) (fun hpx y H' s' hy => ?_) (fun hpx H' s' => ?_)
    · refine ⟨ws, s' _ _ hw, Nat.lt_of_le_of_lt hwl (Nat.lt_trans hi (Nat.lt_of_le_of_lt hx (by decide))), same_put (s.trans s') hD, ws ++ [y], upd_same, by rw [List.length_append, List.length_singleton]; omega, ?_⟩
      rw [et, List.filter_append, List.filter_cons_of_pos (by rw [hpx]), List.filter_nil, List.map_append]
      exact paired_app (paired_mono (fun u b r H2 z => r H2 ((same_toX s').trans (sameX_upd.trans z))) hS) (.cons (fun H2 z => hy H2 (sameX_upd.trans z)) .nil)
    · refine ⟨s.trans s', ws, s' _ _ hw, by omega, ?_⟩
      rw [et, List.filter_append, List.filter_cons_of_neg (by rw [hpx]; decide), List.filter_nil, List.append_nil]
      exact paired_mono (fun u b r H2 z => r H2 ((same_toX s').trans z)) hS
  · obtain ⟨s, ws, hw, hwl, hS⟩ := hP
    rw [hlen, List.take_length] at hS
    exact hd H ws s hw (paired_mono (fun u b r => r H (SameX.refl D H)) hS)
theorem lc_genT {K : PySem.W.Frag} {α β : Type} {R : Rel α} (S : Rel β) (mR : Mono R) {a D : Addr} {vs : List V} {xs : List α} (p : α → Bool) (f : α → β) {g : TG} {tt : TT} {te : TE} {ow : List Nat} {σ : L2.St} {H1 : Hp} {Qd : Hp → Prop}
    (hl : H1 a = some (.tup vs)) (hp : Paired (R H1) vs xs) (hD : H1 D = none) (hx : xs.length ≤ 1000000)
    (turn : ∀ x ∈ xs, ∀ (v : V) (H : Hp) (N : V → Hp → Prop) (M : Hp → Prop), Same H1 H → (∃ acc, H D = some (.lst acc)) → R H v x → (p x = true → ∀ y H', Same H H' → (∀ H2, SameX D H' H2 → S H2 y (f x)) → N y H') → (p x = false → ∀ H', Same H H' → M H') →
      g v (wipe σ ow) H fun σ2 H2 => wipe σ2 ow = wipe σ ow ∧ tt σ2 H2 fun b H3 => if b = true then te σ2 H3 N else M H3)
    (hd : ∀ H' ws, Same H1 H' → H' D = some (.lst ws) → Paired (S H') ws ((xs.filter p).map f) → Qd H') :
    ∃ W : Nat → Nat → Hp → Prop, (∃ m, W 0 m (upd H1 D (.lst []))) ∧ ∀ i m H, W i m H →
      ((Itt K a).stop i H ∧ Qd H) ∨ ((Itt K a).go i H ∧ ∃ Nx : Hp → Prop, (∀ H', Nx H' → ∃ m', m' < m ∧ W (i + 1) m' H') ∧ ∀ x H', (Itt K a).yld i H x H' → g x (wipe σ ow) H' fun σ2 H2 => wipe σ2 ow = wipe σ ow ∧ tt σ2 H2 fun b H3 =>
        if b = true then te σ2 H3 fun y H4 => ∃ acc, H4 D = some (.lst acc) ∧ acc.length < sizeLine ∧ Nx (upd H4 D (.lst (acc ++ [y]))) else Nx H3) := by
  have hlen := paired_len hp
  refine lc_tup (K := K) (a := a) (xs := vs) (fun i H => Same H1 H ∧ ∃ ws, H D = some (.lst ws) ∧ ws.length ≤ i ∧ Paired (fun y b => ∀ H2, SameX D H H2 → S H2 y b) ws (((xs.take i).filter p).map f)) ⟨same_upd hD, [], upd_same, Nat.le_refl _, .nil⟩ (fun i H _ ⟨s, _⟩ => .inl (.inl (s _ _ hl))) (fun i v H hv hP => ?_) (fun H hP => ?_)
  · obtain ⟨s, ws, hw, hwl, hS⟩ := hP
    obtain ⟨x, ex, rx⟩ := paired_get hp hv
    have hi : i < xs.length := (List.getElem?_eq_some_iff.mp ex).1
    have et : xs.take (i + 1) = xs.take i ++ [x] := by
      rw [List.take_succ_eq_append_getElem hi, (List.getElem?_eq_some_iff.mp ex).2]
    refine turn x (List.mem_of_getElem? ex) v H _ _ s ⟨_, hw⟩ (mR _ _ _ _ s rx) (fun hpx y H' s' hy => ?_) (fun hpx H' s' => ?_)
    · refine ⟨ws, s' _ _ hw, Nat.lt_of_le_of_lt hwl (Nat.lt_trans hi (Nat.lt_of_le_of_lt hx (by decide))), same_put (s.trans s') hD, ws ++ [y], upd_same, by rw [List.length_append, List.length_singleton]; omega, ?_⟩
      rw [et, List.filter_append, List.filter_cons_of_pos (by rw [hpx]), List.filter_nil, List.map_append]
      exact paired_app (paired_mono (fun u b r H2 z => r H2 ((same_toX s').trans (sameX_upd.trans z))) hS) (.cons (fun H2 z => hy H2 (sameX_upd.trans z)) .nil)
    · refine ⟨s.trans s', ws, s' _ _ hw, by omega, ?_⟩
      rw [et, List.filter_append, List.filter_cons_of_neg (by rw [hpx]; decide), List.filter_nil, List.append_nil]
      exact paired_mono (fun u b r H2 z => r H2 ((same_toX s').trans z)) hS
  · obtain ⟨s, ws, hw, hwl, hS⟩ := hP
    rw [hlen, List.take_length] at hS
    exact hd H ws s hw (paired_mono (fun u b r => r H (SameX.refl D H)) hS)
/-- over ints, kept as they are -/
theorem filter_ints {H : Hp} {ws : List V} {ns : List Int} (h : Paired (isInt H) ws (ns.map fun x => x)) : ws = ns.map V.int := by
  rw [List.map_id'] at h
  exact paired_int h
def isBl : Rel Bool := fun _ v b => v = .bl b
theorem paired_bl {H : Hp} : ∀ {vs : List V} {ns : List Bool}, Paired (isBl H) vs ns → vs = ns.map V.bl
  | _, _, .nil => rfl
  | _, _, .cons r t => by rw [show _ = V.bl _ from r, paired_bl t]; rfl
theorem filter_true {α : Type} (l : List α) : (l.filter fun _ => true) = l := List.filter_eq_self.mpr fun _ _ => rfl
/-! ### loops over a list -/
theorem for_rel {K : PySem.W.Frag} {α : Type} {R : Rel α} {a : Addr} {vs : List V} {xs : List α} {g : TG} {tb : TS} {D : Ends} {σ : L2.St} {H : Hp} (hp : vs.length = xs.length) (Pv : Nat → L2.St → Hp → Prop) (h0 : Pv 0 σ H) (keep : ∀ i σ H, Pv i σ H → H a = some (.lst vs) ∧ Paired (R H) vs xs)
    (hs : ∀ i x v σ H, xs[i]? = some x → i < xs.length → R H v x → Pv i σ H → g v σ H fun σ2 H2 => tb { D with nx := Pv (i + 1), ct := Pv (i + 1), bk := D.nx } σ2 H2) (hd : ∀ σ H, Pv xs.length σ H → D.nx σ H) :
    ∃ W : Nat → Nat → L2.St → Hp → Prop, (∃ m, W 0 m σ H) ∧ ∀ i m σ H, W i m σ H →
      ((Itl K a).stop i H ∧ D.nx σ H) ∨ ((Itl K a).go i H ∧ ∃ N : L2.St → Hp → Prop, (∀ σ' H', N σ' H' → ∃ m', m' < m ∧ W (i + 1) m' σ' H') ∧ ∀ x H', (Itl K a).yld i H x H' → g x σ H' fun σ2 H2 => tb { D with nx := N, ct := N, bk := D.nx } σ2 H2) := by
  refine for_list (K := K) (a := a) (xs := vs) Pv h0 (fun i σ H _ p => .inl (.inl (keep i σ H p).1)) (fun i v σ H hv p => ?_) (fun σ H p => ?_)
  · obtain ⟨x, ex, rx⟩ := paired_get (keep i σ H p).2 hv
    exact hs i x v σ H ex (List.getElem?_eq_some_iff.mp ex).1 rx p
  · rw [hp] at p
    exact hd σ H p
/-! ### ends -/
theorem lcYes {te : TE} {σ : L2.St} {H : Hp} {N : V → Hp → Prop} {M : Hp → Prop} (h : te σ H N) : tYes σ H fun b H3 => if b = true then te σ H3 N else M H3 := (iteT h : if true = true then te σ H N else M H)
theorem blT {Q : VK} {c : Bool} {H : Hp} (e : c = true) (q : Q (.bl true) H) : Q (.bl c) H := by
  rw [e]
  exact q
theorem blF {Q : VK} {c : Bool} {H : Hp} (e : c = false) (q : Q (.bl false) H) : Q (.bl c) H := by
  rw [e]
  exact q
theorem iteE {c : Bool} {A B : Prop} (e : c = true) (h : A) : if c = true then A else B := by
  rw [if_pos e]
  exact h
theorem iteN {c : Bool} {A B : Prop} (e : c = false) (h : B) : if c = true then A else B := by
  rw [e]
  exact iteF h
theorem dV {a b : Int} : decide (V.int a = V.int b) = decide (a = b) := by
  by_cases h : a = b
  · rw [h, decide_eq_true rfl, decide_eq_true rfl]
  · rw [decide_eq_false h, decide_eq_false fun q => h (V.int.inj q)]
/-! ### data as a whole, for == -/
structure Enc (K : PySem.W.Frag) {α : Type} (R : Rel α) (e : α → PyData) (n : Nat) : Prop where
  dp : ∀ H v x, R H v x → Dp K H v (e x)
  lay : ∀ x, (e x).canLay0 = true
  dep : ∀ x, (e x).depth ≤ n
theorem Enc.shaped {K : PySem.W.Frag} {α : Type} {R : Rel α} {e : α → PyData} {n : Nat} (E : Enc K R e n) (h : n ≤ 64) (x : α) : SeqAt.shaped (e x) = true := by
  unfold SeqAt.shaped
  rw [E.lay x, decide_eq_true (Nat.le_trans (E.dep x) h)]
  rfl
theorem enc_int {K : PySem.W.Frag} : Enc K isInt PyData.int 1 := ⟨fun H v x r => by rw [show v = V.int x from r]; exact .int x, fun _ => rfl, fun _ => by simp [PyData.depth]⟩
def encT (t : Tie) : PyData := .tuple [.int t.1, .int t.2]
theorem enc_tie {K : PySem.W.Frag} : Enc K isTie encT 2 := ⟨fun H v x ⟨p, e, h⟩ => by rw [e]; exact .tup (SqT.of h) (.cons (.int _) (.cons (.int _) .nil)), fun _ => rfl, fun _ => by simp [encT, PyData.depth, PyData.depthAll]⟩
theorem dpAll_of {K : PySem.W.Frag} {α : Type} {R : Rel α} {e : α → PyData} {n : Nat} (E : Enc K R e n) {H : Hp} : ∀ {vs : List V} {xs : List α}, Paired (R H) vs xs → DpAll K H vs (xs.map e)
  | _, _, .nil => .nil
  | _, _, .cons r t => .cons (E.dp _ _ _ r) (dpAll_of E t)
theorem lay_all {α : Type} {e : α → PyData} (h : ∀ x, (e x).canLay0 = true) : ∀ xs : List α, PyData.canLayAll0 (xs.map e) = true
  | [] => rfl
  | x :: xs => by
    show PyData.canLayAll0 (e x :: xs.map e) = true
    unfold PyData.canLayAll0
    rw [h x, lay_all h xs]
    rfl
theorem dep_all {α : Type} {e : α → PyData} {n : Nat} (h : ∀ x, (e x).depth ≤ n) : ∀ xs : List α, PyData.depthAll (xs.map e) ≤ n
  | [] => Nat.zero_le _
  | x :: xs => by
    show PyData.depthAll (e x :: xs.map e) ≤ n
    unfold PyData.depthAll
    exact Nat.max_le.mpr ⟨h x, dep_all h xs⟩
theorem enc_lst {K : PySem.W.Frag} {α : Type} {R : Rel α} {e : α → PyData} {n : Nat} (E : Enc K R e n) : Enc K (isLst R) (fun xs => .list (xs.map e)) (n + 1) :=
  ⟨fun H v xs ⟨a, vs, q, h, p⟩ => by rw [q]; exact .lst (SqL.of h) (dpAll_of E p), fun xs => by show PyData.canLayAll0 _ = true; exact lay_all E.lay xs, fun xs => by
    have := dep_all E.dep xs
    show PyData.depth (.list (xs.map e)) ≤ n + 1
    unfold PyData.depth
    omega⟩
theorem eqv_same {K : PySem.W.Frag} {α : Type} {R : Rel α} {e : α → PyData} {n : Nat} (E : Enc K R e n) (x : α) : PyData.eqv (e x) (e x) = true := PySem.SeqAt.eqv_refl _ (E.lay x)
theorem eqv_nil {ds : List PyData} : PyData.eqv (.list ds) (.list []) = ds.isEmpty := by
  cases ds <;> rfl
end K74
namespace K74
open PySem PySem.Spec PyProof.Rows L2
section
variable {P : Program} {w : World} {K : PySem.W.Frag} {mg : Str → Option Value} {base : Heap}
/-! ### is_number, _law_whole -/
def spNum : Sp := fun vs H Q _ => ∃ i : Int, vs = [.int i] ∧ Q (.bl true) H
theorem kit1 {K : PySem.W.Frag} {x : V} {a b : String} {r : Bool} {H : Hp} {Q : VK} (ty : TyX K H x (.type a)) (h : kitB a b = some r) (q : Q (.bl r) H) : rIsi K [x, .ty b] H Q :=
  ⟨x, .ty b, _, _, r, rfl, .ty b, ty, kit_ty h, q⟩
theorem ty_int {K : PySem.W.Frag} {H : Hp} (i : Int) : TyX K H (.int i) (.type "int") := .base (.int i)
theorem kn_is_number (S : Std K mg "is_number" s_is_number) (T : Txt mg) : Kn P w K mg base 1 "is_number" p_is_number spNum := by
  refine kn_mk S c_is_number (fun vs H Q E h => ?_) (fun _ _ _ _ _ _ us hl => match us, hl with | [_], _ => rfl) (fun f cdv A outer s H vs Q E hr h => ?_)
  · obtain ⟨i, rfl, _⟩ := h
    rfl
  · obtain ⟨i, rfl, q⟩ := h
    refine ⟨_, pss_one (ps_ret (pe_and (pe_callB call_isi (by rfl) T.isi boot_isinstance (pa_cons (pv 0) (pa_cons (pe_bltn (v := .ty "int") (by rfl) T.int boot_int rfl) pa_nil)))
      (pe_one (pe_not (pe_callB call_isi (by rfl) T.isi boot_isinstance (pa_cons (pv 0) (pa_cons (pe_bltn (v := .ty "bool") (by rfl) T.bool boot_bool rfl) pa_nil))))))), ?_⟩
    refine ⟨_, rfl, .int i, .ty "int", _, _, true, rfl, .ty _, ty_int i, kit_ty (by decide +kernel), _, rfl, iteT ?_⟩
    exact ⟨_, rfl, .int i, .ty "bool", _, _, false, rfl, .ty _, ty_int i, kit_ty (by decide +kernel), _, rfl, q⟩
theorem kn_whole (S : Std K mg "_law_whole" s_L_whole) (T : Txt mg) : Kn P w K mg base 1 "_law_whole" p_L_whole spNum := by
  refine kn_mk S c_L_whole (fun vs H Q E h => ?_) (fun _ _ _ _ _ _ us hl => match us, hl with | [_], _ => rfl) (fun f cdv A outer s H vs Q E hr h => ?_)
  · obtain ⟨i, rfl, _⟩ := h
    rfl
  · obtain ⟨i, rfl, q⟩ := h
    refine ⟨_, pss_one (ps_ret (pe_and (pe_callB call_isi (by rfl) T.isi boot_isinstance (pa_cons (pv 0) (pa_cons (pe_bltn (v := .ty "int") (by rfl) T.int boot_int rfl) pa_nil)))
      (pe_one (pe_not (pe_callB call_isi (by rfl) T.isi boot_isinstance (pa_cons (pv 0) (pa_cons (pe_bltn (v := .ty "bool") (by rfl) T.bool boot_bool rfl) pa_nil))))))), ?_⟩
    refine ⟨_, rfl, .int i, .ty "int", _, _, true, rfl, .ty _, ty_int i, kit_ty (by decide +kernel), _, rfl, iteT ?_⟩
    exact ⟨_, rfl, .int i, .ty "bool", _, _, false, rfl, .ty _, ty_int i, kit_ty (by decide +kernel), _, rfl, q⟩
/-! ### are_unlike_names, is_ranking -/
def spUnl : Sp := fun vs H Q _ => ∃ (a : Addr) (ns : List Int), vs = [.ref a] ∧ LI H a ns ∧ ns.length ≤ 20 ∧ ns.Nodup ∧ (∀ n ∈ ns, 0 ≤ n) ∧ ∀ H', Same H H' → Q (.bl true) H'
theorem ty_lst {K : PySem.W.Frag} {H : Hp} {a : Addr} {xs : List V} (h : H a = some (.lst xs)) : TyX K H (.ref a) (.type "list") := .base (.lst h)
theorem ty_tup {K : PySem.W.Frag} {H : Hp} {a : Addr} {xs : List V} (h : H a = some (.tup xs)) : TyX K H (.ref a) (.type "tuple") := .base (.tup h)
theorem kn_unl (S : Std K mg "are_unlike_names" s_are_unlike_names) (T : Txt mg) (k1 : Kn P w K mg base 1 "is_number" p_is_number spNum) : Kn P w K mg base 2 "are_unlike_names" p_are_unlike_names spUnl := by
  obtain ⟨f1, fd1, G1, b1, g1, e1⟩ := k1
  refine kn_mk S c_are_unlike_names (fun vs H Q E h => ?_) (fun _ _ _ _ _ _ us hl => match us, hl with | [_], _ => rfl) (fun f cdv A outer s H vs Q E hr h => ?_)
  · obtain ⟨a, ns, rfl, _⟩ := h
    rfl
  · obtain ⟨a, ns, rfl, hL, hlen, hnd, hpos, q⟩ := h
    refine ⟨_, pss_cons (ps_if (PW.pt (pw_or (pt_not (pt_val (pe_callB call_isi (by rfl) T.isi boot_isinstance (pa_cons (pv 0) (pa_cons (pe_bltn (v := .ty "list") (by rfl) T.list boot_list rfl) pa_nil)))))
        (pw_or1 (pt_not (pt_val (pe_callB (cr_all rfl) (by rfl) T.all (by decide +kernel) (pa_cons
          (pe_lc (own := [("name", 1)]) (g := gName 1) (tt := tYes) rfl c_are_unlike_names.nd (pi_list (pv 0)) (blkOk_by (N := n_are_unlike_names) (sc := defScope s_are_unlike_names) (by decide +kernel))
            (fun _ _ _ _ _ => pg_name (i := 1) c_are_unlike_names.nd rfl (Or.inl rfl)) (fun _ _ _ _ _ => pts_nil)
            (fun _ _ _ _ _ => pe_and (pe_call G1 hr (by rfl) g1 e1 b1 .nil pass0 (pa_cons (pv 1) pa_nil)) (pe_one (pe_cmpR op_ge (pv 1) pe_int (nomark _))))) pa_nil)))))))
        (pss_one (ps_ret pe_bl)) pss_nil)
      (pss_one (ps_ret (pe_cmpR op_eq (pe_lenSetI rfl (by rfl) T.len (by rfl) T.set (pv 0)) (pe_callB call_len_seq (by rfl) T.len PySem.boot_len (pa_cons (pv 0) pa_nil)) (nomark _)))), ?_⟩
    refine ⟨_, rfl, .ref a, .ty "list", _, _, true, rfl, .ty _, ty_lst hL, kit_ty (by decide +kernel), _, rfl, iteF ?_⟩
    refine ⟨_, rfl, a, rfl, ⟨_, SqL.of hL⟩, fun D hD => lc_gen (R := isInt) isBl mono_int (fun _ => true) (fun _ => true) hL (int_paired ns) hD (by omega) (fun n hn v H1 N M s1 _ rx yes no => ?_) (fun H1 ws s1 hw hp => ?_)⟩
    · subst rx
      refine ⟨rfl, lcYes ⟨_, rfl, n, rfl, _, rfl, iteT ⟨_, rfl, _, _, rfl, rfl, blT (Q := N) (decide_eq_true (hpos n hn)) ?_⟩⟩⟩
      exact yes rfl _ _ (Same.refl _) fun _ _ => rfl
    · rw [filter_true] at hp
      have e := paired_bl hp
      subst e
      have al : (ns.map fun _ => true).all id = true := by
        rw [List.all_eq_true]
        intro x hx
        obtain ⟨_, _, e⟩ := List.mem_map.mp hx
        rw [← e]
        rfl
      refine ⟨D, _, rfl, SqL.of hw, ?_⟩
      rw [al]
      refine ⟨_, rfl, iteF ?_⟩
      have hL1 := s1 _ _ hL
      refine ⟨_, rfl, a, ns, rfl, SqL.of hL1, by omega, hnd, _, rfl, a, _, rfl, .inl (SqL.of hL1), rfl, ?_⟩
      exact blT (Q := Q) (by rw [ints_len]; exact decide_eq_true rfl) (q _ s1)
def spRk : Sp := fun vs H Q _ => ∃ (a : Addr) (ns : List Int), vs = [.ref a] ∧ LI H a ns ∧ 1 ≤ ns.length ∧ ns.length ≤ 10 ∧ ns.Nodup ∧ (∀ n ∈ ns, 0 ≤ n) ∧ ∀ H', Same H H' → Q (.bl true) H'
theorem kn_isrk (S : Std K mg "is_ranking" s_is_ranking) (T : Txt mg) (k1 : Kn P w K mg base 2 "are_unlike_names" p_are_unlike_names spUnl) : Kn P w K mg base 3 "is_ranking" p_is_ranking spRk := by
  obtain ⟨f1, fd1, G1, b1, g1, e1⟩ := k1
  obtain ⟨tt, mN⟩ := T.names
  refine kn_mk S c_is_ranking (fun vs H Q E h => ?_) (fun _ _ _ _ _ _ us hl => match us, hl with | [_], _ => rfl) (fun f cdv A outer s H vs Q E hr h => ?_)
  · obtain ⟨a, ns, rfl, _⟩ := h
    rfl
  · obtain ⟨a, ns, rfl, hL, hpos1, hlen, hnd, hpos, q⟩ := h
    refine ⟨_, pss_one (ps_ret (pe_and (pe_call G1 hr (by rfl) g1 e1 b1 .nil pass0 (pa_cons (pv 0) pa_nil))
      (pe_and (pe_cmpR op_gt (pe_callB call_len_seq (by rfl) T.len PySem.boot_len (pa_cons (pv 0) pa_nil)) pe_int (nomark _))
      (pe_one (pe_cmpR op_le (pe_callB call_len_seq (by rfl) T.len PySem.boot_len (pa_cons (pv 0) pa_nil)) (pe_glob (v := .int 10) (by rfl) mN ⟨_, rfl⟩) (nomark _)))))), ?_⟩
    refine ⟨_, rfl, a, ns, rfl, hL, by omega, hnd, hpos, fun H1 s1 => ?_⟩
    have hL1 := s1 _ _ hL
    refine ⟨_, rfl, iteT ?_⟩
    refine ⟨_, rfl, a, _, rfl, .inl (SqL.of hL1), _, _, rfl, rfl, _, rfl, iteE (decide_eq_true (by rw [ints_len]; omega)) ?_⟩
    exact ⟨_, rfl, a, _, rfl, .inl (SqL.of hL1), _, _, rfl, rfl, blT (Q := Q) (decide_eq_true (by rw [ints_len]; omega)) (q _ s1)⟩
end
end K74
namespace K74
open PySem PySem.Spec PyProof.Rows L2
/-! ### is_folk -/
structure Fk (folk : List (List Int)) (names : List Int) : Prop where
  rk : Rk folk names
  many : folk.length ≤ 20
  few : names.length ≤ 10
  pos : ∀ n ∈ names, 0 ≤ n
abbrev isFolk : Rel (List (List Int)) := isLst (isLst isInt)
theorem mono_rk : Mono (isLst isInt) := mono_lst mono_int
theorem mono_folk : Mono isFolk := mono_lst mono_rk
theorem sorted_ints {ns' ns : List Int} (hp : ns'.Perm ns) (hs : ns'.Pairwise (· ≤ ·)) (hn : ns.Nodup) : ns' = sortI ns := by
  have nd : ns'.Nodup := hp.nodup_iff.mpr hn
  refine sortD_of strictI ?_ fun x => hp.mem_iff
  refine List.Pairwise.imp (R := fun a b : Int => a ≤ b ∧ a ≠ b) (fun {a b} h => ?_) (List.pairwise_and_iff.mpr ⟨hs, nd⟩)
  omega
section
variable {P : Program} {w : World} {K : PySem.W.Frag} {mg : Str → Option Value} {base : Heap}
def spFolk : Sp := fun vs H Q _ => ∃ (v : V) (folk : List (List Int)) (names : List Int), vs = [v] ∧ isFolk H v folk ∧ Fk folk names ∧ ∀ H', Same H H' → Q (.bl true) H'
theorem kn_isfolk (S : Std K mg "is_folk" s_is_folk) (T : Txt mg) (k1 : Kn P w K mg base 3 "is_ranking" p_is_ranking spRk) : Kn P w K mg base 4 "is_folk" p_is_folk spFolk := by
  obtain ⟨f1, fd1, G1, b1, g1, e1⟩ := k1
  obtain ⟨tt, mN⟩ := T.hands
  refine kn_mk S c_is_folk (fun vs H Q E h => ?_) (fun _ _ _ _ _ _ us hl => match us, hl with | [_], _ => rfl) (fun f cdv A outer s H vs Q E hr h => ?_)
  · obtain ⟨v, folk, names, rfl, _⟩ := h
    rfl
  · obtain ⟨v, folk, names, rfl, ⟨a, vs, rfl, hL, hp⟩, F, q⟩ := h
    refine ⟨_, pss_cons (ps_if (PW.pt (pw_or (pt_not (pt_val (pe_callB call_isi (by rfl) T.isi boot_isinstance (pa_cons (pv 0) (pa_cons (pe_bltn (v := .ty "list") (by rfl) T.list boot_list rfl) pa_nil)))))
        (pw_or (pt_cmpR op_lt (pe_callB call_len_seq (by rfl) T.len PySem.boot_len (pa_cons (pv 0) pa_nil)) pe_int (nomark _))
        (pw_or1 (pt_cmpR op_gt (pe_callB call_len_seq (by rfl) T.len PySem.boot_len (pa_cons (pv 0) pa_nil)) (pe_glob (v := .int 20) (by rfl) mN ⟨_, rfl⟩) (nomark _))))))
        (pss_one (ps_ret pe_bl)) pss_nil)
      (pss_cons (ps_if (pt_not (pt_val (pe_callB (cr_all rfl) (by rfl) T.all (by decide +kernel) (pa_cons
          (pe_lc (own := [("ranking", 1)]) (g := gName 1) (tt := tYes) rfl c_is_folk.nd (pi_list (pv 0)) (blkOk_by (N := n_is_folk) (sc := defScope s_is_folk) (by decide +kernel))
            (fun _ _ _ _ _ => pg_name (i := 1) c_is_folk.nd rfl (Or.inl rfl)) (fun _ _ _ _ _ => pts_nil)
            (fun _ _ _ _ _ => pe_call G1 hr (by rfl) g1 e1 b1 .nil pass0 (pa_cons (pv 1) pa_nil))) pa_nil))))
        (pss_one (ps_ret pe_bl)) pss_nil)
      (pss_one (ps_ret (pe_callB (cr_all rfl) (by rfl) T.all (by decide +kernel) (pa_cons
          (pe_lc (own := [("ranking", 1)]) (g := gName 1) (tt := tYes) rfl c_is_folk.nd (pi_list (pv 0)) (blkOk_by (N := n_is_folk) (sc := defScope s_is_folk) (by decide +kernel))
            (fun _ _ _ _ _ => pg_name (i := 1) c_is_folk.nd rfl (Or.inl rfl)) (fun _ _ _ _ _ => pts_nil)
            (fun _ _ _ _ _ => pe_cmpR (r := rEqD K) (op_eqD hr.units) (pe_callB (r := rSorted K) cr_sorted (by rfl) T.sorted boot_sorted (pa_cons (pv 1) pa_nil))
              (pe_callB (r := rSorted K) cr_sorted (by rfl) T.sorted boot_sorted (pa_cons (pe_ix (r := rIxL K) ix_list (pv 0) pe_int (fun _ _ => rfl)) pa_nil)) (nomark _))) pa_nil))))), ?_⟩
    have hvl := paired_len hp
    have hf1 : 1 ≤ folk.length := List.length_pos_iff.mpr F.rk.ne
    have hf2 := F.many
    refine ⟨_, rfl, .ref a, .ty "list", _, _, true, rfl, .ty _, ty_lst hL, kit_ty (by decide +kernel), _, rfl, iteF ?_⟩
    refine ⟨_, rfl, a, _, rfl, .inl (SqL.of hL), _, _, rfl, rfl, _, rfl, iteN (decide_eq_false (by omega)) ?_⟩
    refine ⟨_, rfl, a, _, rfl, .inl (SqL.of hL), _, _, rfl, rfl, _, rfl, iteN (decide_eq_false (by omega)) ?_⟩
    refine ⟨_, rfl, a, rfl, ⟨_, SqL.of hL⟩, fun D hD => lc_gen (R := isLst isInt) isBl mono_rk (fun _ => true) (fun _ => true) hL hp hD (by omega) (fun r hr v H1 N M s1 _ rx yes no => ?_) (fun H1 ws s1 hw hp1 => ?_)⟩
    · obtain ⟨b, rfl, hb⟩ := isLst_int rx
      have hrl := F.rk.len hr
      have := F.few
      have := F.rk.pos
      refine ⟨rfl, lcYes ⟨_, rfl, b, r, rfl, hb, by omega, by omega, (F.rk.rk r hr).1, fun n hn => F.pos n (((F.rk.rk r hr).2 n).mp hn), fun H2 s2 => yes rfl _ _ s2 fun _ _ => rfl⟩⟩
    · rw [filter_true] at hp1
      have e := paired_bl hp1
      subst e
      have al : (folk.map fun _ => true).all id = true := by
        rw [List.all_eq_true]
        intro x hx
        obtain ⟨_, _, e⟩ := List.mem_map.mp hx
        rw [← e]
        rfl
      refine ⟨D, _, rfl, SqL.of hw, ?_⟩
      rw [al]
      refine ⟨_, rfl, iteF ?_⟩
      have hL1 := s1 _ _ hL
      have hp2 := paired_mono (fun _ _ r => mono_rk _ _ _ _ s1 r) hp
      refine ⟨_, rfl, a, rfl, ⟨_, SqL.of hL1⟩, fun D hD => lc_gen (R := isLst isInt) isBl mono_rk (fun _ => true) (fun _ => true) hL1 hp2 hD (by omega) (fun r hrr v H2 N M s2 _ rx yes no => ?_) (fun H2 ws s2 hw2 hp3 => ?_)⟩
      · obtain ⟨b, rfl, hb⟩ := isLst_int rx
        have hrl := F.rk.len hrr
        have hn10 := F.few
        refine ⟨rfl, lcYes ⟨_, rfl, b, r, rfl, SqL.of hb, by omega, fun ns1 p1 perm1 ris1 new1 => ?_⟩⟩
        have s3 : Same H2 _ := same_upd (o := .lst (ns1.map V.int)) new1
        have hL3 := s3 _ _ (s2 _ _ hL1)
        have hp3 := paired_mono (fun _ _ r => mono_rk _ _ _ _ (s2.trans s3) r) hp2
        obtain ⟨r0, v0, e0, hv0, hr0⟩ : ∃ r0 v0, folk[0]? = some r0 ∧ vs[0]? = some v0 ∧ isLst isInt (upd H2 p1 (.lst (ns1.map V.int))) v0 r0 := by
          have h0 : folk[0]? = some folk[0] := List.getElem?_eq_getElem (by omega)
          obtain ⟨v0, x, y⟩ := paired_get' hp3 h0
          exact ⟨_, v0, h0, x, y⟩
        obtain ⟨b0, rfl, hb0⟩ := isLst_int hr0
        have hrl0 := F.rk.len (List.mem_of_getElem? e0)
        refine ⟨_, rfl, a, vs, 0, _, rfl, rfl, SqL.of hL3, atI_nat (j := 0) hv0, b0, r0, rfl, SqL.of hb0, by omega, fun ns2 p2 perm2 ris2 new2 => ?_⟩
        have s4 : Same _ _ := same_upd (o := .lst (ns2.map V.int)) new2
        have q1 := sorted_ints perm1 ris1 (F.rk.rk r hrr).1
        have q2 := sorted_ints perm2 ris2 (F.rk.rk r0 (List.mem_of_getElem? e0)).1
        rw [F.rk.sort hrr] at q1
        rw [F.rk.sort (List.mem_of_getElem? e0)] at q2
        subst q1
        subst q2
        refine ⟨_, _, (enc_lst enc_int).dp _ _ _ (lst_int (s4 _ _ upd_same)), (enc_lst enc_int).dp _ _ _ (lst_int upd_same), (enc_lst (K := K) enc_int).shaped (by decide) _, (enc_lst (K := K) enc_int).shaped (by decide) _, ?_⟩
        refine blT (Q := N) (eqv_same (K := K) (enc_lst enc_int) _) (yes rfl _ _ (s3.trans s4) fun _ _ => rfl)
      · rw [filter_true] at hp3
        have e := paired_bl hp3
        subst e
        exact ⟨D, _, rfl, SqL.of hw2, blT (Q := Q) al (q _ (s1.trans s2))⟩
end
end K74
namespace K74
open PySem PySem.Spec PyProof.Rows L2
section
variable {P : Program} {w : World} {K : PySem.W.Frag} {mg : Str → Option Value} {base : Heap}
/-! ### must_be_folk, must_be_ranking -/
def spMustF : Sp := fun vs H Q _ => ∃ (v : V) (folk : List (List Int)) (names : List Int), vs = [v] ∧ isFolk H v folk ∧ Fk folk names ∧ ∀ H', Same H H' → Q .non H'
theorem kn_mustf (S : Std K mg "must_be_folk" s_must_be_folk) (T : Txt mg) (k1 : Kn P w K mg base 4 "is_folk" p_is_folk spFolk) : Kn P w K mg base 5 "must_be_folk" p_must_be_folk spMustF := by
  obtain ⟨f1, fd1, G1, b1, g1, e1⟩ := k1
  refine kn_mk S c_must_be_folk (fun vs H Q E h => ?_) (fun _ _ _ _ _ _ us hl => match us, hl with | [_], _ => rfl) (fun f cdv A outer s H vs Q E hr h => ?_)
  · obtain ⟨v, folk, names, rfl, _⟩ := h
    rfl
  · obtain ⟨v, folk, names, rfl, hv, F, q⟩ := h
    refine ⟨_, pss_one (ps_if (pt_not (pt_val (pe_call G1 hr (by rfl) g1 e1 b1 .nil pass0 (pa_cons (pv 0) pa_nil)))) pss_never pss_nil), ?_⟩
    exact ⟨_, rfl, v, folk, names, rfl, hv, F, fun H1 s1 => ⟨_, rfl, iteF (q _ s1)⟩⟩
def spMustR : Sp := fun vs H Q _ => ∃ (a : Addr) (ns : List Int), vs = [.ref a] ∧ LI H a ns ∧ 1 ≤ ns.length ∧ ns.length ≤ 10 ∧ ns.Nodup ∧ (∀ n ∈ ns, 0 ≤ n) ∧ ∀ H', Same H H' → Q .non H'
theorem kn_mustr (S : Std K mg "must_be_ranking" s_must_be_ranking) (T : Txt mg) (k1 : Kn P w K mg base 3 "is_ranking" p_is_ranking spRk) : Kn P w K mg base 4 "must_be_ranking" p_must_be_ranking spMustR := by
  obtain ⟨f1, fd1, G1, b1, g1, e1⟩ := k1
  refine kn_mk S c_must_be_ranking (fun vs H Q E h => ?_) (fun _ _ _ _ _ _ us hl => match us, hl with | [_], _ => rfl) (fun f cdv A outer s H vs Q E hr h => ?_)
  · obtain ⟨a, ns, rfl, _⟩ := h
    rfl
  · obtain ⟨a, ns, rfl, hL, h1, h2, h3, h4, q⟩ := h
    refine ⟨_, pss_one (ps_if (pt_not (pt_val (pe_call G1 hr (by rfl) g1 e1 b1 .nil pass0 (pa_cons (pv 0) pa_nil)))) pss_never pss_nil), ?_⟩
    exact ⟨_, rfl, a, ns, rfl, hL, h1, h2, h3, h4, fun H1 s1 => ⟨_, rfl, iteF (q _ s1)⟩⟩
/-! ### reached, hang_together -/
abbrev isTies : Rel (List Tie) := isLst isTie
theorem mono_ties : Mono isTies := mono_lst mono_tie
def spReach : Sp := fun vs H Q _ => ∃ (vt : V) (b : Addr) (first : Int) (E : List Tie) (S : List Int), vs = [vt, .ref b, .int first] ∧ isTies H vt E ∧ LI H b S ∧ S.Nodup ∧ first ∈ S ∧ S.length ≤ 20 ∧
  ∀ H' p, Same H H' → LI H' p (rounds E S S.length [first]) → Q (.ref p) H'
theorem step_sub {E : List Tie} {S f0 : List Int} {a : Int} (g : Good E S a f0) (i : Nat) : Good E S a ((E.take i).foldl (step S) f0) := foldl_good _ _ (fun t ht => List.mem_of_mem_take ht) g
theorem take_foldl {E : List Tie} {S f0 : List Int} {i : Nat} {t : Tie} (h : E[i]? = some t) : (E.take (i + 1)).foldl (step S) f0 = step S ((E.take i).foldl (step S) f0) t := by
  have hi := (List.getElem?_eq_some_iff.mp h).1
  rw [List.take_succ_eq_append_getElem hi, List.foldl_append, (List.getElem?_eq_some_iff.mp h).2]
  rfl
theorem new_one {S f : List Int} {t : Tie} (h : fires S f t = true) : f ++ ([t.1, t.2].filter fun x => decide (x ∉ f)) = step S f t := by
  unfold step
  rw [if_pos h]
theorem fires_ne {S f : List Int} {t : Tie} (h1 : t.1 ∈ S) (h2 : t.2 ∈ S) : (!decide (V.bl (decide (t.1 ∈ f)) = V.bl (decide (t.2 ∈ f)))) = fires S f t := by
  unfold fires
  rw [decide_eq_true h1, decide_eq_true h2]
  by_cases h3 : t.1 ∈ f <;> by_cases h4 : t.2 ∈ f <;> simp [h3, h4]
theorem kn_reached (S : Std K mg "reached" s_reached) (T : Txt mg) : Kn P w K mg base 1 "reached" p_reached spReach := by
  refine kn_mk S c_reached (fun vs H Q E h => ?_) (fun _ _ _ _ _ _ us hl => match us, hl with | [_, _, _], _ => rfl) (fun f cdv A outer s H vs Q E hr h => ?_)
  · obtain ⟨vt, b, first, E, S, rfl, _⟩ := h
    rfl
  · obtain ⟨vt, b, first, E, S, rfl, ⟨at_, ws, rfl, hT, hE⟩, hS, hnd, hin, hlen, q⟩ := h
    refine ⟨_, pss_cons (ps_set (i := 3) c_reached.nd rfl (Or.inr rfl) (pe_lst (pa_cons (pv 2) pa_nil)))
      (pss_cons (ps_set (i := 4) c_reached.nd rfl (Or.inl rfl) pe_int)
      (pss_cons (ps_while PassesOwn.never (pt_cmpR op_lt (pv 4) (pe_callB call_len_seq (by rfl) T.len PySem.boot_len (pa_cons (pv 3) pa_nil)) (nomark _))
        (pss_cons (ps_set (i := 4) c_reached.nd rfl (Or.inl rfl) (pe_callB call_len_seq (by rfl) T.len PySem.boot_len (pa_cons (pv 3) pa_nil)))
        (pss_one (ps_for PassesOwn.never rfl (pi_list (pv 0)) (pg_tup rfl (pgs_cons (pg_name (i := 5) c_reached.nd rfl (Or.inl rfl)) (pgs_cons (pg_name (i := 6) c_reached.nd rfl (Or.inl rfl)) pgs_nil)))
          (pss_one (ps_if (PW.pt (pw_and (pt_cmpR op_in_seq (pv 5) (pv 1) (by rfl)) (pw_and (pt_cmpR op_in_seq (pv 6) (pv 1) (by rfl))
              (pw_and1 (pt_cmpR op_ne (pe_cmpR op_in_seq (pv 5) (pv 3) (by rfl)) (pe_cmpR op_in_seq (pv 6) (pv 3) (by rfl)) (nomark _))))))
            (pss_one (ps_set (i := 3) c_reached.nd rfl (Or.inr rfl) (pe_op op_cat (pv 3)
              (pe_lc (own := [("name", 7)]) (g := gName 7) (tt := tB (tOp (rIn K true) (tVar 7) (tVar 3))) rfl c_reached.nd (pi_tup (pe_tup (pa_cons (pv 5) (pa_cons (pv 6) pa_nil)))) (blkOk_by (N := n_reached) (sc := defScope s_reached) (by decide +kernel))
                (fun _ _ _ _ _ => pg_name (i := 7) c_reached.nd rfl (Or.inl rfl)) (fun _ _ _ _ _ => pts_one (pt_cmpR (r := rIn K true) op_notIn_seq (pv 7) (pv 3) (by rfl)))
                (fun _ _ _ _ _ => pv 7))))) pss_nil))))))
      (pss_one (ps_ret (pv 3))))), ?_⟩
    refine ⟨_, rfl, (by show 1 ≤ sizeLine; decide), fun p0 n0 => ?_⟩
    have s0 : Same H (upd H p0 (.lst [.int first])) := same_upd n0
    refine ⟨fun m σ H' => ∃ (j : Nat) (pf : Addr) (mn : Int) (o5 o6 : Option V), σ = [some (.ref at_), some (.ref b), some (.int first), some (.ref pf), some (.int mn), o5, o6, none] ∧ Same H H' ∧ H pf = none ∧
      LI H' pf (rounds E S j [first]) ∧ (m : Int) + mn = S.length + 1 ∧ 0 ≤ mn ∧ ((j = 0 ∧ mn = 0) ∨ ∃ i, j = i + 1 ∧ mn = ((rounds E S i [first]).length : Int)), ⟨S.length + 1, 0, p0, 0, none, none, rfl, s0, n0, upd_same, by omega, by omega, .inl ⟨rfl, rfl⟩⟩, fun m σ H1 hW => ?_⟩
    obtain ⟨j, pf, mn, o5, o6, rfl, s1, n1, hf, hm, hmn, hj⟩ := hW
    have gj := rounds_good (E := E) j [first] (good_one hin)
    have lj := nodup_sub_len gj.nd gj.sub
    refine ⟨_, rfl, _, rfl, pf, _, rfl, .inl (SqL.of hf), _, _, rfl, rfl, _, rfl, ite2 (fun hlt => ?_) (fun hge => ?_)⟩
    · have hlt := of_decide_eq_true hlt
      rw [ints_len] at hlt
      refine ⟨fun σ' H' => ∃ m', m' < m ∧ ∃ (j : Nat) (pf : Addr) (mn : Int) (o5 o6 : Option V), σ' = [some (.ref at_), some (.ref b), some (.int first), some (.ref pf), some (.int mn), o5, o6, none] ∧ Same H H' ∧ H pf = none ∧
        LI H' pf (rounds E S j [first]) ∧ (m' : Int) + mn = S.length + 1 ∧ 0 ≤ mn ∧ ((j = 0 ∧ mn = 0) ∨ ∃ i, j = i + 1 ∧ mn = ((rounds E S i [first]).length : Int)), fun σ' H' h => h, ?_⟩
      refine ⟨_, rfl, pf, _, rfl, .inl (SqL.of hf), ?_⟩
      rw [ints_len]
      have hT1 := s1 _ _ hT
      refine ⟨_, rfl, at_, rfl, ⟨_, SqL.of hT1⟩, for_rel (R := isTie) (xs := E) (paired_len hE) (fun i σ H' => ∃ (pg : Addr) (o5 o6 : Option V), σ = [some (.ref at_), some (.ref b), some (.int first), some (.ref pg), some (.int (rounds E S j [first]).length), o5, o6, none] ∧
        Same H H' ∧ H pg = none ∧ LI H' pg ((E.take i).foldl (step S) (rounds E S j [first])))
        ⟨pf, o5, o6, rfl, s1, n1, hf⟩ (fun i σ H' ⟨_, _, _, _, s2, _, _⟩ => ⟨s2 _ _ hT, paired_mono (fun _ _ r => mono_tie _ _ _ _ s2 r) hE⟩) (fun i t v σ H2 ht hi rt hP => ?_) (fun σ H2 hP => ?_)⟩
      · obtain ⟨pg, u5, u6, rfl, s2, n2, hg⟩ := hP
        obtain ⟨tp, rfl, htp⟩ := rt
        have gi := step_sub gj i
        have li := nodup_sub_len gi.nd gi.sub
        have hS2 := s2 _ _ hS
        rw [take_foldl ht]
        generalize (E.take i).foldl (step S) (rounds E S j [first]) = f at *
        refine ⟨tp, [.int t.1, .int t.2], rfl, SqT.of htp, rfl, .int t.1, [.int t.2], rfl, .int t.2, [], rfl, rfl, ?_⟩
        refine ⟨_, rfl, _, rfl, r_in hS2 ⟨_, rfl, ?_⟩⟩
        refine ite2 (fun h1 => ?_) (fun h1 => ?_)
        · have h1 := of_decide_eq_true h1
          refine ⟨_, rfl, _, rfl, r_in hS2 ⟨_, rfl, ?_⟩⟩
          refine ite2 (fun h2 => ?_) (fun h2 => ?_)
          · have h2 := of_decide_eq_true h2
            refine ⟨_, rfl, _, rfl, r_in hg ⟨_, rfl, _, rfl, r_in hg ⟨rfl, _, rfl, ?_⟩⟩⟩
            rw [fires_ne h1 h2]
            refine ite2 (fun h3 => ?_) (fun h3 => ?_)
            · refine ⟨_, rfl, _, rfl, _, rfl, (by show 2 ≤ sizeLine; decide), fun tq nq => ?_⟩
              have s3 : Same H2 _ := same_upd (o := .tup [.int t.1, .int t.2]) nq
              refine ⟨tq, rfl, ⟨_, SqT.of upd_same⟩, fun D hD => lc_genT (R := isInt) isInt mono_int (fun x => decide (x ∉ f)) (fun x => x) (xs := [t.1, t.2]) upd_same (.cons rfl (.cons rfl .nil)) hD (by show 2 ≤ 1000000; decide) (fun x hx v H3 N M s4 _ rx yes no => ?_) (fun H3 ws s4 hw hp => ?_)⟩
              · subst rx
                refine ⟨rfl, _, rfl, _, rfl, r_notin (s4 _ _ (s3 _ _ hg)) ⟨_, rfl, ?_⟩⟩
                refine ite2 (fun e => ?_) (fun e => ?_)
                · exact ⟨_, rfl, yes e _ _ (Same.refl _) fun _ _ => rfl⟩
                · exact no (by simpa using e) _ (Same.refl _)
              · have hw := filter_ints hp ▸ hw
                refine ⟨pg, D, _, _, rfl, rfl, s4 _ _ (s3 _ _ hg), hw, ?_, fun pn nn => ?_⟩
                · have h5 : (List.filter (fun x => decide (x ∉ f)) [t.1, t.2]).length ≤ 2 := List.length_filter_le _ _
                  rw [ints_len, ints_len]
                  exact line_of (by omega)
                · refine ⟨pn, _, _, rfl, same_put (s2.trans (s3.trans s4)) (((s2.trans (s3.trans s4)).free nn)), (s2.trans (s3.trans s4)).free nn, ?_⟩
                  show upd H3 pn _ pn = _
                  rw [upd_same, ← List.map_append, new_one h3]
            · refine ⟨pg, _, _, rfl, s2, n2, ?_⟩
              rw [step_not h3]
              exact hg
          · refine ⟨pg, _, _, rfl, s2, n2, ?_⟩
            rw [step_not fun z => h2 (decide_eq_true (fires_iff.mp z).1.2)]
            exact hg
        · refine ⟨pg, _, _, rfl, s2, n2, ?_⟩
          rw [step_not fun z => h1 (decide_eq_true (fires_iff.mp z).1.1)]
          exact hg
      · obtain ⟨pg, u5, u6, rfl, s2, n2, hg⟩ := hP
        rw [List.take_length] at hg
        refine ⟨S.length + 1 - (rounds E S j [first]).length, by omega, j + 1, pg, _, u5, u6, rfl, s2, n2, ?_, by omega, by omega, .inr ⟨j, rfl, rfl⟩⟩
        rw [rounds_succ]
        exact hg
    · have hge : ¬ (mn < ((rounds E S j [first]).length : Int)) := fun z => hge (decide_eq_true (by rw [ints_len]; exact z))
      refine ⟨_, rfl, q _ _ s1 ?_⟩
      rcases hj with ⟨rfl, rfl⟩ | ⟨i, rfl, rfl⟩
      · exfalso
        apply hge
        show (0 : Int) < (([first] : List Int).length : Int)
        simp
      · rw [rounds_succ] at hf hge
        have l1 := pass_le (E := E) (S := S) (f := rounds E S i [first])
        have e := (pass_still (E := E) (S := S) (f := rounds E S i [first]) (by omega)).1
        rw [e] at hf
        rw [← rounds_same hin e]
        exact hf
end
end K74
namespace K74
open PySem PySem.Spec PyProof.Rows L2
/-! ### slices -/
theorem cut_to (xs : List V) (k : Nat) : cutV xs none (some (k : Int)) = xs.take k := by
  unfold cutV
  rw [HT.sIx_nat, HT.sIx_none, List.drop_zero, Nat.sub_zero]
  rcases Nat.le_total k xs.length with h | h
  · rw [Nat.min_eq_left h]
  · rw [Nat.min_eq_right h, List.take_length, List.take_of_length_le h]
theorem cut_from (xs : List V) (k : Nat) : cutV xs (some (k : Int)) none = xs.drop k := by
  unfold cutV
  rw [HT.sIx_nat, HT.sIx_none]
  rcases Nat.le_total k xs.length with h | h
  · rw [Nat.min_eq_left h, List.take_of_length_le (by rw [List.length_drop]; omega)]
  · rw [Nat.min_eq_right h, List.drop_length, List.drop_of_length_le h, List.take_nil]
theorem find_range {p : Nat → Bool} : ∀ (n s m : Nat), (∀ k, s ≤ k → k < m → p k = false) → s ≤ m → m < s + n → p m = true → (List.range' s n).find? p = some m
  | 0, s, m, _, h1, h2, _ => by omega
  | n + 1, s, m, h, h1, h2, h3 => by
    rw [List.range'_succ]
    by_cases e : s = m
    · subst e
      rw [List.find?_cons_of_pos h3]
    · rw [List.find?_cons_of_neg (by rw [h s (Nat.le_refl _) (by omega)]; decide)]
      exact find_range n (s + 1) m (fun k k1 k2 => h k (by omega) k2) (by omega) (by omega) h3
theorem apart_at {E : List Tie} {q : List Int} {m : Nat} (h : ∀ k, 1 ≤ k → k < m → tog E (q.take k) = true) (h1 : 1 ≤ m) (h2 : m ≤ q.length) (h3 : tog E (q.take m) = false) : apart E q = some m :=
  find_range _ _ _ (fun k k1 k2 => by rw [h k k1 k2]; rfl) h1 (by omega) (by rw [h3]; rfl)
def apV : Option Nat → V
  | none => .non
  | some m => .int m
section
variable {P : Program} {w : World} {K : PySem.W.Frag} {mg : Str → Option Value} {base : Heap}
def spTog : Sp := fun vs H Q _ => ∃ (vt : V) (b : Addr) (E : List Tie) (S : List Int), vs = [vt, .ref b] ∧ isTies H vt E ∧ LI H b S ∧ S.Nodup ∧ S ≠ [] ∧ S.length ≤ 20 ∧ ∀ H', Same H H' → Q (.bl (tog E S)) H'
theorem kn_hang (S : Std K mg "hang_together" s_hang_together) (T : Txt mg) (k1 : Kn P w K mg base 1 "reached" p_reached spReach) : Kn P w K mg base 2 "hang_together" p_hang_together spTog := by
  obtain ⟨f1, fd1, G1, b1, g1, e1⟩ := k1
  refine kn_mk S c_hang_together (fun vs H Q E h => ?_) (fun _ _ _ _ _ _ us hl => match us, hl with | [_, _], _ => rfl) (fun f cdv A outer s H vs Q E hr h => ?_)
  · obtain ⟨vt, b, E, S, rfl, _⟩ := h
    rfl
  · obtain ⟨vt, b, E, S, rfl, hE, hS, hnd, hne, hlen, q⟩ := h
    refine ⟨_, pss_one (ps_ret (pe_cmpR op_eq (pe_callB call_len_seq (by rfl) T.len PySem.boot_len (pa_cons
        (pe_call G1 hr (by rfl) g1 e1 b1 .nil pass0 (pa_cons (pv 0) (pa_cons (pv 1) (pa_cons (pe_ix ix_list (pv 1) pe_int (fun _ _ => rfl)) pa_nil)))) pa_nil))
      (pe_callB call_len_seq (by rfl) T.len PySem.boot_len (pa_cons (pv 1) pa_nil)) (nomark _))), ?_⟩
    obtain ⟨a, r, rfl⟩ : ∃ a r, S = a :: r := by
      cases S with
      | nil => exact absurd rfl hne
      | cons a r => exact ⟨a, r, rfl⟩
    refine ⟨_, rfl, _, rfl, _, rfl, b, _, 0, .int a, rfl, rfl, SqL.of hS, atI_nat (j := 0) rfl, vt, b, a, E, a :: r, rfl, hE, hS, hnd, List.mem_cons_self, hlen, fun H1 p s1 hp => ?_⟩
    refine ⟨p, _, rfl, .inl (SqL.of hp), _, rfl, b, _, rfl, .inl (SqL.of (s1 _ _ hS)), rfl, ?_⟩
    have e : decide (V.int (((rounds E (a :: r) (a :: r).length [a]).map V.int).length : Nat) = V.int (((a :: r).map V.int).length : Nat)) = tog E (a :: r) := by
      rw [dV, ints_len, ints_len]
      unfold tog
      show _ = (List.length (rounds E (a :: r) (a :: r).length [a]) == (a :: r).length)
      rw [Bool.eq_iff_iff, decide_eq_true_iff, beq_iff_eq]
      omega
    show Q (.bl (decide (V.int (((rounds E (a :: r) (a :: r).length [a]).map V.int).length : Nat) = V.int (((a :: r).map V.int).length : Nat)))) H1
    rw [e]
    exact q _ s1
def spApart : Sp := fun vs H Q _ => ∃ (vt : V) (b : Addr) (E : List Tie) (r : List Int), vs = [vt, .ref b] ∧ isTies H vt E ∧ LI H b r ∧ r.Nodup ∧ r.length ≤ 20 ∧ ∀ H', Same H H' → Q (apV (apart E r)) H'
theorem kn_apart (S : Std K mg "apart_at" s_apart_at) (T : Txt mg) (k1 : Kn P w K mg base 2 "hang_together" p_hang_together spTog) : Kn P w K mg base 3 "apart_at" p_apart_at spApart := by
  obtain ⟨f1, fd1, G1, b1, g1, e1⟩ := k1
  refine kn_mk S c_apart_at (fun vs H Q E h => ?_) (fun _ _ _ _ _ _ us hl => match us, hl with | [_, _], _ => rfl) (fun f cdv A outer s H vs Q E hr h => ?_)
  · obtain ⟨vt, b, E, S, rfl, _⟩ := h
    rfl
  · obtain ⟨vt, b, E, r, rfl, hE, hS, hnd, hlen, q⟩ := h
    refine ⟨_, pss_cons (ps_for PassesOwn.never rfl (pi_range2 (by rfl) T.range (pa_cons pe_int (pa_cons (pe_op op_add (pe_callB call_len_seq (by rfl) T.len PySem.boot_len (pa_cons (pv 1) pa_nil)) pe_int) pa_nil)))
        (pg_name (i := 2) c_apart_at.nd rfl (Or.inl rfl))
        (pss_one (ps_if (pt_not (pt_val (pe_call G1 hr (by rfl) g1 e1 b1 .nil pass0 (pa_cons (pv 0) (pa_cons (pe_slice sl_list (pv 1) po_none (po_some (pv 2))) pa_nil)))))
          (pss_one (ps_ret (pv 2))) pss_nil)))
      (pss_one (ps_ret pe_non)), ?_⟩
    refine ⟨_, rfl, b, _, rfl, .inl (SqL.of hS), _, _, rfl, rfl, 1, _, rfl, ⟨by decide, by decide, by rw [ints_len]; omega, by rw [ints_len]; omega⟩, for_range (lo := 1) (n := ((((r.map V.int).length : Nat) : Int) + 1 - 1).toNat)
      (fun i σ H' => ∃ o, σ = [some vt, some (.ref b), o] ∧ Same H H' ∧ ∀ k, 1 ≤ k → k ≤ i → tog E (r.take k) = true) ⟨none, rfl, Same.refl _, fun k k1 k2 => by omega⟩ (fun i σ H1 hi hP => ?_) (fun σ H1 hP => ?_)⟩
    · obtain ⟨o, rfl, s1, hk⟩ := hP
      have hi : i < r.length := by rw [ints_len] at hi; omega
      refine ⟨_, rfl, _, rfl, _, rfl, _, rfl, b, _, rfl, SqL.of (s1 _ _ hS), fun p np => ?_⟩
      have s2 : Same H1 _ := same_upd (o := .lst (cutV (r.map V.int) none (some (1 + (i : Int))))) np
      have hp : LI (upd H1 p (.lst (cutV (r.map V.int) none (some (1 + (i : Int)))))) p (r.take (i + 1)) := by
        show upd H1 p _ p = _
        rw [upd_same, show (1 + (i : Int)) = ((i + 1 : Nat) : Int) by omega, cut_to, List.map_take]
      refine ⟨vt, p, E, r.take (i + 1), rfl, mono_ties _ _ _ _ (s1.trans s2) hE, hp, nodup_take _ hnd, take_ne (by omega) (by omega), by rw [List.length_take]; omega, fun H2 s3 => ?_⟩
      refine ⟨_, rfl, ?_⟩
      cases e : tog E (r.take (i + 1)) with
      | true =>
        refine iteF ⟨_, rfl, (s1.trans s2).trans s3, fun k k1 k2 => ?_⟩
        rcases Nat.lt_or_ge k (i + 1) with z | z
        · exact hk k k1 (by omega)
        · rw [show k = i + 1 by omega]
          exact e
      | false =>
        refine iteT ⟨_, rfl, ?_⟩
        have : apart E r = some (i + 1) := apart_at (fun k k1 k2 => hk k k1 (by omega)) (by omega) (by omega) e
        rw [this] at q
        show Q (.int (1 + (i : Int))) H2
        rw [show (1 + (i : Int)) = ((i + 1 : Nat) : Int) by omega]
        exact q _ ((s1.trans s2).trans s3)
    · obtain ⟨o, rfl, s1, hk⟩ := hP
      have : apart E r = none := apart_none.mpr fun k k1 k2 => hk k k1 (by rw [ints_len]; omega)
      rw [this] at q
      exact q _ s1
end
end K74
namespace K74
open PySem PySem.Spec PyProof.Rows L2
section
variable {P : Program} {w : World} {K : PySem.W.Frag} {mg : Str → Option Value} {base : Heap}
theorem rounds_good' {E : List Tie} {a : Int} {r : List Int} (i : Nat) : Good E (a :: r) a (rounds E (a :: r) i ((a :: r).take 1)) := rounds_good (E := E) i [a] (good_one List.mem_cons_self)
theorem kn_tog (S : Std K mg "_law_together" s_L_together) (T : Txt mg) : Kn P w K mg base 1 "_law_together" p_L_together spTog := by
  refine kn_mk S c_L_together (fun vs H Q E h => ?_) (fun _ _ _ _ _ _ us hl => match us, hl with | [_, _], _ => rfl) (fun f cdv A outer s H vs Q E hr h => ?_)
  · obtain ⟨vt, b, E, S, rfl, _⟩ := h
    rfl
  · obtain ⟨vt, b, E, S, rfl, ⟨at_, ws, rfl, hT, hE⟩, hS, hnd, hne, hlen, q⟩ := h
    obtain ⟨a, r, rfl⟩ : ∃ a r, S = a :: r := by
      cases S with
      | nil => exact absurd rfl hne
      | cons a r => exact ⟨a, r, rfl⟩
    refine ⟨_, pss_cons (ps_set (i := 2) c_L_together.nd rfl (Or.inr rfl) (pe_slice sl_list (pv 1) po_none (po_some pe_int)))
      (pss_cons (ps_for PassesOwn.never rfl (pi_range1 (by rfl) T.range (pa_cons (pe_callB call_len_seq (by rfl) T.len PySem.boot_len (pa_cons (pv 1) pa_nil)) pa_nil)) (pg_name (i := 3) c_L_together.nd rfl (Or.inl rfl))
        (pss_one (ps_for PassesOwn.never rfl (pi_list (pv 0)) (pg_tup rfl (pgs_cons (pg_name (i := 4) c_L_together.nd rfl (Or.inl rfl)) (pgs_cons (pg_name (i := 5) c_L_together.nd rfl (Or.inl rfl)) pgs_nil)))
          (pss_one (ps_if (PW.pt (pw_and (pt_cmpR op_in_seq (pv 4) (pv 1) (by rfl)) (pw_and (pt_cmpR op_in_seq (pv 5) (pv 1) (by rfl))
              (pw_and1 (pt_cmpR op_ne (pe_cmpR op_in_seq (pv 4) (pv 2) (by rfl)) (pe_cmpR op_in_seq (pv 5) (pv 2) (by rfl)) (nomark _))))))
            (pss_one (ps_set (i := 2) c_L_together.nd rfl (Or.inr rfl) (pe_op op_cat (pv 2)
              (pe_lc (own := [("_law_name", 6)]) (g := gName 6) (tt := tB (tOp (rIn K true) (tVar 6) (tVar 2))) rfl c_L_together.nd (pi_tup (pe_tup (pa_cons (pv 4) (pa_cons (pv 5) pa_nil)))) (blkOk_by (N := n_L_together) (sc := defScope s_L_together) (by decide +kernel))
                (fun _ _ _ _ _ => pg_name (i := 6) c_L_together.nd rfl (Or.inl rfl)) (fun _ _ _ _ _ => pts_one (pt_cmpR (r := rIn K true) op_notIn_seq (pv 6) (pv 2) (by rfl)))
                (fun _ _ _ _ _ => pv 6))))) pss_nil)))))
      (pss_one (ps_ret (pe_cmpR op_eq (pe_callB call_len_seq (by rfl) T.len PySem.boot_len (pa_cons (pv 2) pa_nil)) (pe_callB call_len_seq (by rfl) T.len PySem.boot_len (pa_cons (pv 1) pa_nil)) (nomark _))))), ?_⟩
    refine ⟨_, rfl, 1, rfl, b, _, rfl, SqL.of hS, fun p0 n0 => ?_⟩
    have s0 : Same H (upd H p0 (.lst (cutV ((a :: r).map V.int) none (some 1)))) := same_upd n0
    have h0 : LI (upd H p0 (.lst (cutV ((a :: r).map V.int) none (some 1)))) p0 ((a :: r).take 1) := by
      show upd H p0 _ p0 = _
      rw [upd_same, show (1 : Int) = ((1 : Nat) : Int) from rfl, cut_to, List.map_take]
    refine ⟨_, rfl, b, _, rfl, .inl (SqL.of (s0 _ _ hS)), _, rfl, by rw [ints_len]; omega, by rw [ints_len]; omega, for_range (lo := 0) (n := (((((a :: r).map V.int).length : Nat) : Int)).toNat)
      (fun i σ H' => ∃ (pf : Addr) (o3 o4 o5 : Option V), σ = [some (.ref at_), some (.ref b), some (.ref pf), o3, o4, o5, none] ∧ Same H H' ∧ H pf = none ∧ LI H' pf (rounds E (a :: r) i ((a :: r).take 1)))
      ⟨p0, none, none, none, rfl, s0, n0, h0⟩ (fun j σ H1 hj hP => ?_) (fun σ H1 hP => ?_)⟩
    · obtain ⟨pf, o3, o4, o5, rfl, s1, n1, hf⟩ := hP
      have gj := rounds_good' (E := E) (a := a) (r := r) j
      have hT1 := s1 _ _ hT
      refine ⟨_, rfl, at_, rfl, ⟨_, SqL.of hT1⟩, for_rel (R := isTie) (xs := E) (paired_len hE) (fun i σ H' => ∃ (pg : Addr) (o3 o4 o5 : Option V), σ = [some (.ref at_), some (.ref b), some (.ref pg), o3, o4, o5, none] ∧
        Same H H' ∧ H pg = none ∧ LI H' pg ((E.take i).foldl (step (a :: r)) (rounds E (a :: r) j ((a :: r).take 1))))
        ⟨pf, _, o4, o5, rfl, s1, n1, hf⟩ (fun i σ H' ⟨_, _, _, _, _, s2, _, _⟩ => ⟨s2 _ _ hT, paired_mono (fun _ _ r => mono_tie _ _ _ _ s2 r) hE⟩) (fun i t v σ H2 ht hi rt hP => ?_) (fun σ H2 hP => ?_)⟩
      · obtain ⟨pg, u3, u5, u6, rfl, s2, n2, hg⟩ := hP
        obtain ⟨tp, rfl, htp⟩ := rt
        have gi := step_sub gj i
        have li := nodup_sub_len gi.nd gi.sub
        have hS2 := s2 _ _ hS
        rw [take_foldl ht]
        generalize (E.take i).foldl (step (a :: r)) (rounds E (a :: r) j ((a :: r).take 1)) = f at *
        refine ⟨tp, [.int t.1, .int t.2], rfl, SqT.of htp, rfl, .int t.1, [.int t.2], rfl, .int t.2, [], rfl, rfl, ?_⟩
        refine ⟨_, rfl, _, rfl, r_in hS2 ⟨_, rfl, ?_⟩⟩
        refine ite2 (fun h1 => ?_) (fun h1 => ?_)
        · have h1 := of_decide_eq_true h1
          refine ⟨_, rfl, _, rfl, r_in hS2 ⟨_, rfl, ?_⟩⟩
          refine ite2 (fun h2 => ?_) (fun h2 => ?_)
          · have h2 := of_decide_eq_true h2
            refine ⟨_, rfl, _, rfl, r_in hg ⟨_, rfl, _, rfl, r_in hg ⟨rfl, _, rfl, ?_⟩⟩⟩
            rw [fires_ne h1 h2]
            refine ite2 (fun h3 => ?_) (fun h3 => ?_)
            · refine ⟨_, rfl, _, rfl, _, rfl, (by show 2 ≤ sizeLine; decide), fun tq nq => ?_⟩
              have s3 : Same H2 _ := same_upd (o := .tup [.int t.1, .int t.2]) nq
              refine ⟨tq, rfl, ⟨_, SqT.of upd_same⟩, fun D hD => lc_genT (R := isInt) isInt mono_int (fun x => decide (x ∉ f)) (fun x => x) (xs := [t.1, t.2]) upd_same (.cons rfl (.cons rfl .nil)) hD (by show 2 ≤ 1000000; decide) (fun x hx v H3 N M s4 _ rx yes no => ?_) (fun H3 ws s4 hw hp => ?_)⟩
              · subst rx
                refine ⟨rfl, _, rfl, _, rfl, r_notin (s4 _ _ (s3 _ _ hg)) ⟨_, rfl, ?_⟩⟩
                refine ite2 (fun e => ?_) (fun e => ?_)
                · exact ⟨_, rfl, yes e _ _ (Same.refl _) fun _ _ => rfl⟩
                · exact no (by simpa using e) _ (Same.refl _)
              · have hw := filter_ints hp ▸ hw
                refine ⟨pg, D, _, _, rfl, rfl, s4 _ _ (s3 _ _ hg), hw, ?_, fun pn nn => ?_⟩
                · have h5 : (List.filter (fun x => decide (x ∉ f)) [t.1, t.2]).length ≤ 2 := List.length_filter_le _ _
                  rw [ints_len, ints_len]
                  exact line_of (by omega)
                · refine ⟨pn, _, _, _, rfl, same_put (s2.trans (s3.trans s4)) (((s2.trans (s3.trans s4)).free nn)), (s2.trans (s3.trans s4)).free nn, ?_⟩
                  show upd H3 pn _ pn = _
                  rw [upd_same, ← List.map_append, new_one h3]
            · refine ⟨pg, _, _, _, rfl, s2, n2, ?_⟩
              rw [step_not h3]
              exact hg
          · refine ⟨pg, _, _, _, rfl, s2, n2, ?_⟩
            rw [step_not fun z => h2 (decide_eq_true (fires_iff.mp z).1.2)]
            exact hg
        · refine ⟨pg, _, _, _, rfl, s2, n2, ?_⟩
          rw [step_not fun z => h1 (decide_eq_true (fires_iff.mp z).1.1)]
          exact hg
      · obtain ⟨pg, u3, u5, u6, rfl, s2, n2, hg⟩ := hP
        rw [List.take_length] at hg
        refine ⟨pg, _, _, _, rfl, s2, n2, ?_⟩
        rw [rounds_succ]
        exact hg
    · obtain ⟨pf, o3, o4, o5, rfl, s1, n1, hf⟩ := hP
      rw [show (((((a :: r).map V.int).length : Nat) : Int)).toNat = (a :: r).length by rw [ints_len]; omega] at hf
      refine ⟨_, rfl, pf, _, rfl, .inl (SqL.of hf), _, rfl, b, _, rfl, .inl (SqL.of (s1 _ _ hS)), rfl, ?_⟩
      have e : decide (V.int (((rounds E (a :: r) (a :: r).length ((a :: r).take 1)).map V.int).length : Nat) = V.int (((a :: r).map V.int).length : Nat)) = tog E (a :: r) := by
        rw [dV, ints_len, ints_len]
        unfold tog
        rw [Bool.eq_iff_iff, decide_eq_true_iff, beq_iff_eq]
        omega
      show Q (.bl (decide (V.int (((rounds E (a :: r) (a :: r).length ((a :: r).take 1)).map V.int).length : Nat) = V.int (((a :: r).map V.int).length : Nat)))) H1
      rw [e]
      exact q _ s1
theorem kn_lapart (S : Std K mg "_law_apart" s_L_apart) (T : Txt mg) (k1 : Kn P w K mg base 1 "_law_together" p_L_together spTog) : Kn P w K mg base 2 "_law_apart" p_L_apart spApart := by
  obtain ⟨f1, fd1, G1, b1, g1, e1⟩ := k1
  refine kn_mk S c_L_apart (fun vs H Q E h => ?_) (fun _ _ _ _ _ _ us hl => match us, hl with | [_, _], _ => rfl) (fun f cdv A outer s H vs Q E hr h => ?_)
  · obtain ⟨vt, b, E, S, rfl, _⟩ := h
    rfl
  · obtain ⟨vt, b, E, r, rfl, hE, hS, hnd, hlen, q⟩ := h
    refine ⟨_, pss_cons (ps_for PassesOwn.never rfl (pi_range2 (by rfl) T.range (pa_cons pe_int (pa_cons (pe_op op_add (pe_callB call_len_seq (by rfl) T.len PySem.boot_len (pa_cons (pv 1) pa_nil)) pe_int) pa_nil)))
        (pg_name (i := 2) c_L_apart.nd rfl (Or.inl rfl))
        (pss_one (ps_if (pt_not (pt_val (pe_call G1 hr (by rfl) g1 e1 b1 .nil pass0 (pa_cons (pv 0) (pa_cons (pe_slice sl_list (pv 1) po_none (po_some (pv 2))) pa_nil)))))
          (pss_one (ps_ret (pv 2))) pss_nil)))
      (pss_one (ps_ret pe_non)), ?_⟩
    refine ⟨_, rfl, b, _, rfl, .inl (SqL.of hS), _, _, rfl, rfl, 1, _, rfl, ⟨by decide, by decide, by rw [ints_len]; omega, by rw [ints_len]; omega⟩, for_range (lo := 1) (n := ((((r.map V.int).length : Nat) : Int) + 1 - 1).toNat)
      (fun i σ H' => ∃ o, σ = [some vt, some (.ref b), o] ∧ Same H H' ∧ ∀ k, 1 ≤ k → k ≤ i → tog E (r.take k) = true) ⟨none, rfl, Same.refl _, fun k k1 k2 => by omega⟩ (fun i σ H1 hi hP => ?_) (fun σ H1 hP => ?_)⟩
    · obtain ⟨o, rfl, s1, hk⟩ := hP
      have hi : i < r.length := by rw [ints_len] at hi; omega
      refine ⟨_, rfl, _, rfl, _, rfl, _, rfl, b, _, rfl, SqL.of (s1 _ _ hS), fun p np => ?_⟩
      have s2 : Same H1 _ := same_upd (o := .lst (cutV (r.map V.int) none (some (1 + (i : Int))))) np
      have hp : LI (upd H1 p (.lst (cutV (r.map V.int) none (some (1 + (i : Int)))))) p (r.take (i + 1)) := by
        show upd H1 p _ p = _
        rw [upd_same, show (1 + (i : Int)) = ((i + 1 : Nat) : Int) by omega, cut_to, List.map_take]
      refine ⟨vt, p, E, r.take (i + 1), rfl, mono_ties _ _ _ _ (s1.trans s2) hE, hp, nodup_take _ hnd, take_ne (by omega) (by omega), by rw [List.length_take]; omega, fun H2 s3 => ?_⟩
      refine ⟨_, rfl, ?_⟩
      cases e : tog E (r.take (i + 1)) with
      | true =>
        refine iteF ⟨_, rfl, (s1.trans s2).trans s3, fun k k1 k2 => ?_⟩
        rcases Nat.lt_or_ge k (i + 1) with z | z
        · exact hk k k1 (by omega)
        · rw [show k = i + 1 by omega]
          exact e
      | false =>
        refine iteT ⟨_, rfl, ?_⟩
        have : apart E r = some (i + 1) := apart_at (fun k k1 k2 => hk k k1 (by omega)) (by omega) (by omega) e
        rw [this] at q
        show Q (.int (1 + (i : Int))) H2
        rw [show (1 + (i : Int)) = ((i + 1 : Nat) : Int) by omega]
        exact q _ ((s1.trans s2).trans s3)
    · obtain ⟨o, rfl, s1, hk⟩ := hP
      have : apart E r = none := apart_none.mpr fun k k1 k2 => hk k k1 (by rw [ints_len]; omega)
      rw [this] at q
      exact q _ s1
end
end K74
namespace K74
open PySem PySem.Spec PyProof.Rows L2
/-! ### ties sorted -/
abbrev tl (t : Tie) : List Int := [t.1, t.2]
def untl (l : List Int) : Tie := (l.getD 0 0, l.getD 1 0)
theorem code_tie {B : Int} {t u : Tie} (ht : TS.Bd B (tl t)) (hu : TS.Bd B (tl u)) (h : TS.code B (tl t) ≤ TS.code B (tl u)) (ne : t ≠ u) : ltT t u := by
  rcases strictT.tri t u with q | q | q
  · exact q
  · exact absurd q ne
  · exfalso
    have : TS.code B (tl u) < TS.code B (tl t) := by
      rcases q with q | ⟨q1, q2⟩
      · exact TS.code_lt (r := [u.2]) (q := [t.2]) rfl hu.tail ht.tail q
      · show TS.code B [u.1, u.2] < TS.code B [t.1, t.2]
        rw [q1]
        exact (TS.code_same (r := [u.2]) (q := [t.2]) rfl).mpr (TS.code_lt (r := []) (q := []) rfl (fun _ z => nomatch z) (fun _ z => nomatch z) q2)
    omega
theorem bound : ∀ (ns : List Int), ∃ B, ∀ n ∈ ns, n < B
  | [] => ⟨0, fun _ z => nomatch z⟩
  | n :: ns => by
    obtain ⟨B, h⟩ := bound ns
    refine ⟨max B (n + 1), fun m hm => ?_⟩
    rcases List.mem_cons.mp hm with e | hm
    · rw [e]
      omega
    · have := h m hm
      omega
/-- not below nought -/
def Pos (E : List Tie) : Prop := ∀ t ∈ E, 0 ≤ t.1 ∧ 0 ≤ t.2
theorem pos_bd {E : List Tie} (h : Pos E) : ∃ B, ∀ t ∈ E, TS.Bd B (tl t) := by
  obtain ⟨B, hB⟩ := bound (E.map (·.1) ++ E.map (·.2))
  refine ⟨B, fun t ht m hm => ?_⟩
  obtain ⟨p1, p2⟩ := h t ht
  have a1 := hB t.1 (List.mem_append_left _ (List.mem_map.mpr ⟨t, ht, rfl⟩))
  have a2 := hB t.2 (List.mem_append_right _ (List.mem_map.mpr ⟨t, ht, rfl⟩))
  rcases List.mem_cons.mp hm with e | hm
  · rw [e]
    exact ⟨p1, a1⟩
  · rw [List.mem_singleton.mp hm]
    exact ⟨p2, a2⟩
theorem ks_paired {H : Hp} : ∀ {vs : List V} {E : List Tie}, Paired (isTie H) vs E → ∃ ks : List (Addr × List Int), vs = ks.map (fun p => V.ref p.1) ∧ (∀ p ∈ ks, H p.1 = some (.tup (p.2.map V.int))) ∧ ks.map (·.2) = E.map tl
  | _, _, .nil => ⟨[], rfl, fun _ z => (nomatch z), rfl⟩
  | _, _, .cons (b := t) ⟨a, e, h⟩ r => by
    obtain ⟨ks, h1, h2, h3⟩ := ks_paired r
    refine ⟨(a, tl t) :: ks, by rw [e, h1]; rfl, fun p hp => ?_, by rw [List.map_cons, h3]; rfl⟩
    rcases List.mem_cons.mp hp with q | hp
    · rw [q]
      exact h
    · exact h2 p hp
theorem ties_ks {H : Hp} {v : V} {E : List Tie} (h : isTies H v E) : ∃ (l : Addr) (ks : List (Addr × List Int)), v = .ref l ∧ H l = some (.lst (ks.map fun p => V.ref p.1)) ∧ (∀ p ∈ ks, H p.1 = some (.tup (p.2.map V.int))) ∧ ks.map (·.2) = E.map tl := by
  obtain ⟨l, vs, e, h, p⟩ := h
  obtain ⟨ks, h1, h2, h3⟩ := ks_paired p
  exact ⟨l, ks, e, by rw [← h1]; exact h, h2, h3⟩
theorem ks_back {H : Hp} : ∀ {L : List (Addr × List Int)}, (∀ p ∈ L, H p.1 = some (.tup (p.2.map V.int)) ∧ p.2 = tl (untl p.2)) → Paired (isTie H) (L.map fun p => V.ref p.1) (L.map fun p => untl p.2)
  | [], _ => .nil
  | p :: L, h => by
    obtain ⟨h1, h2⟩ := h p List.mem_cons_self
    refine .cons ⟨p.1, rfl, ?_⟩ (ks_back fun q hq => h q (List.mem_cons_of_mem _ hq))
    rw [h2] at h1
    exact h1
theorem sorted_set {H : Hp} {E : List Tie} {ks L L' : List (Addr × List Int)} {B : Int} (hk : ∀ p ∈ ks, H p.1 = some (.tup (p.2.map V.int))) (hE : ks.map (·.2) = E.map tl) (h1 : ∀ p ∈ L, p ∈ ks) (h2 : ∀ p ∈ ks, p.2 ∈ L.map (·.2))
    (hB : ∀ t ∈ E, TS.Bd B (tl t)) (perm : L'.Perm L) (nd : (L'.map (·.2)).Nodup) (pw : L'.Pairwise fun q r => TS.code B q.2 ≤ TS.code B r.2) {H' : Hp} {p : Addr} (s : Same H H') (hp : H' p = some (.lst (L'.map fun q => V.ref q.1))) : isTies H' (.ref p) (sortT E) := by
  have inE : ∀ q ∈ L', q.2 = tl (untl q.2) ∧ untl q.2 ∈ E ∧ H q.1 = some (.tup (q.2.map V.int)) := fun q hq => by
    have hq' := h1 q (perm.mem_iff.mp hq)
    have : q.2 ∈ E.map tl := by
      rw [← hE]
      exact List.mem_map.mpr ⟨q, hq', rfl⟩
    obtain ⟨t, ht, e⟩ := List.mem_map.mp this
    rw [← e]
    exact ⟨rfl, ht, by have := hk q hq'; rw [← e] at this; exact this⟩
  have e : (L'.map fun q => untl q.2) = sortT E := by
    refine sortD_of strictT ?_ fun t => ⟨fun h => ?_, fun h => ?_⟩
    · rw [List.pairwise_map]
      have nd' : L'.Pairwise fun q r => q.2 ≠ r.2 := List.pairwise_map.mp nd
      refine List.Pairwise.imp_of_mem (R := fun q r => TS.code B q.2 ≤ TS.code B r.2 ∧ q.2 ≠ r.2) (fun {q r} hq hr z => ?_) (List.pairwise_and_iff.mpr ⟨pw, nd'⟩)
      obtain ⟨e1, e2, _⟩ := inE q hq
      obtain ⟨f1, f2, _⟩ := inE r hr
      have z1 := z.1
      rw [e1, f1] at z1
      exact code_tie (hB _ e2) (hB _ f2) z1 fun x => z.2 (by rw [e1, f1, x])
    · obtain ⟨q, hq, e⟩ := List.mem_map.mp h
      rw [← e]
      exact (inE q hq).2.1
    · have : tl t ∈ ks.map (·.2) := by
        rw [hE]
        exact List.mem_map.mpr ⟨t, h, rfl⟩
      obtain ⟨q, hq, e⟩ := List.mem_map.mp this
      obtain ⟨r, hr, e'⟩ := List.mem_map.mp (h2 q hq)
      refine List.mem_map.mpr ⟨r, perm.mem_iff.mpr hr, ?_⟩
      rw [e', e]
      rfl
  rw [← e]
  exact ⟨p, _, rfl, hp, ks_back fun q hq => ⟨s _ _ (inE q hq).2.2, (inE q hq).1⟩⟩
def tieHO : Option HO → Tie
  | some (.tup [.int a, .int b]) => (a, b)
  | _ => (0, 0)
def tieOf (H : Hp) : V → Tie
  | .ref p => tieHO (H p)
  | _ => (0, 0)
theorem tieOf_eq {H : Hp} {v : V} {t : Tie} (h : isTie H v t) : tieOf H v = t := by
  obtain ⟨p, rfl, h⟩ := h
  show tieHO (H p) = t
  rw [h]
  rfl
theorem paired_tieOf {H : Hp} : ∀ {vs : List V} {E : List Tie}, Paired (isTie H) vs E → vs.map (tieOf H) = E
  | _, _, .nil => rfl
  | _, _, .cons r t => by rw [List.map_cons, tieOf_eq r, paired_tieOf t]
theorem back_tieOf {H : Hp} : ∀ {ys : List V}, (∀ y ∈ ys, ∃ t, isTie H y t) → Paired (isTie H) ys (ys.map (tieOf H))
  | [], _ => .nil
  | y :: ys, h => by
    obtain ⟨t, r⟩ := h y List.mem_cons_self
    refine .cons ?_ (back_tieOf fun z hz => h z (List.mem_cons_of_mem _ hz))
    rw [tieOf_eq r]
    exact r
theorem sorted_ties {K : PySem.W.Frag} {H : Hp} {E : List Tie} {xs ys : List V} {B : Int} (hE : Paired (isTie H) xs E) (nd : E.Nodup) (hB : ∀ t ∈ E, TS.Bd B (tl t)) (perm : ys.Perm xs)
    (pw : ys.Pairwise fun x y => ∀ n m, TupI K H x n → TupI K H y m → TS.code B n ≤ TS.code B m) {H' : Hp} {p : Addr} (s : Same H H') (hp : H' p = some (.lst ys)) : isTies H' (.ref p) (sortT E) := by
  have all : ∀ y ∈ ys, ∃ t ∈ E, isTie H y t := fun y hy => paired_mem hE (perm.mem_iff.mp hy)
  have pm : (ys.map (tieOf H)).Perm E := by
    have := perm.map (tieOf H)
    rw [paired_tieOf hE] at this
    exact this
  have e : ys.map (tieOf H) = sortT E := by
    refine sortD_of strictT ?_ fun t => pm.mem_iff
    have nd' : ys.Pairwise fun x y => tieOf H x ≠ tieOf H y := List.pairwise_map.mp (pm.nodup_iff.mpr nd)
    rw [List.pairwise_map]
    refine List.Pairwise.imp_of_mem (R := fun x y => (∀ n m, TupI K H x n → TupI K H y m → TS.code B n ≤ TS.code B m) ∧ tieOf H x ≠ tieOf H y) (fun {x y} hx hy z => ?_) (List.pairwise_and_iff.mpr ⟨pw, nd'⟩)
    obtain ⟨t, ht, rt⟩ := all x hx
    obtain ⟨u, hu, ru⟩ := all y hy
    have z2 := z.2
    rw [tieOf_eq rt, tieOf_eq ru] at z2 ⊢
    obtain ⟨p1, e1, h1⟩ := rt
    obtain ⟨p2, e2, h2⟩ := ru
    exact code_tie (hB t ht) (hB u hu) (z.1 (tl t) (tl u) ⟨p1, e1, SqT.of h1⟩ ⟨p2, e2, SqT.of h2⟩) z2
  rw [← e]
  exact ⟨p, ys, rfl, hp, paired_mono (fun _ _ r => mono_tie _ _ _ _ s r) (back_tieOf fun y hy => by obtain ⟨t, _, r⟩ := all y hy; exact ⟨t, r⟩)⟩
theorem ties_tupI {K : PySem.W.Frag} {H : Hp} {E : List Tie} {xs : List V} {B : Int} (hE : Paired (isTie H) xs E) (hB : ∀ t ∈ E, TS.Bd B (tl t)) : ∀ x ∈ xs, ∃ ns, TupI K H x ns ∧ ns.length = 2 ∧ TS.Bd B ns := fun x hx => by
  obtain ⟨t, ht, p, e, h⟩ := paired_mem hE hx
  exact ⟨tl t, ⟨p, e, SqT.of h⟩, rfl, hB t ht⟩
section
variable {P : Program} {w : World} {K : PySem.W.Frag} {mg : Str → Option Value} {base : Heap}
/-! ### is_tie, is_right_tree, must_be_tree, first_apart -/
def spTie : Sp := fun vs H Q _ => ∃ (b : Addr) (ns : List Int) (v : V) (t : Tie), vs = [.ref b, v] ∧ LI H b ns ∧ isTie H v t ∧ t.1 < t.2 ∧ t.1 ∈ ns ∧ t.2 ∈ ns ∧ Q (.bl true) H
theorem kn_istie (S : Std K mg "is_tie" s_is_tie) (T : Txt mg) (k1 : Kn P w K mg base 1 "is_number" p_is_number spNum) : Kn P w K mg base 2 "is_tie" p_is_tie spTie := by
  obtain ⟨f1, fd1, G1, b1, g1, e1⟩ := k1
  refine kn_mk S c_is_tie (fun vs H Q E h => ?_) (fun _ _ _ _ _ _ us hl => match us, hl with | [_, _], _ => rfl) (fun f cdv A outer s H vs Q E hr h => ?_)
  · obtain ⟨b, ns, v, t, rfl, _⟩ := h
    rfl
  · obtain ⟨b, ns, v, t, rfl, hL, ⟨p, rfl, ht⟩, h1, h2, h3, q⟩ := h
    refine ⟨_, pss_cons (ps_if (PW.pt (pw_or (pt_not (pt_val (pe_callB call_isi (by rfl) T.isi boot_isinstance (pa_cons (pv 1) (pa_cons (pe_bltn (v := .ty "tuple") (by rfl) T.tuple boot_tuple rfl) pa_nil)))))
        (pw_or (pt_cmpR op_ne (pe_callB call_len_seq (by rfl) T.len PySem.boot_len (pa_cons (pv 1) pa_nil)) pe_int (nomark _))
        (pw_or (pt_not (pt_val (pe_call G1 hr (by rfl) g1 e1 b1 .nil pass0 (pa_cons (pe_ix ix_tup (pv 1) pe_int (fun _ _ => rfl)) pa_nil))))
        (pw_or1 (pt_not (pt_val (pe_call G1 hr (by rfl) g1 e1 b1 .nil pass0 (pa_cons (pe_ix ix_tup (pv 1) pe_int (fun _ _ => rfl)) pa_nil)))))))))
        (pss_one (ps_ret pe_bl)) pss_nil)
      (pss_one (ps_ret (pe_and (pe_cmpR op_lt (pe_ix ix_tup (pv 1) pe_int (fun _ _ => rfl)) (pe_ix ix_tup (pv 1) pe_int (fun _ _ => rfl)) (nomark _))
        (pe_and (pe_cmpR op_in_seq (pe_ix ix_tup (pv 1) pe_int (fun _ _ => rfl)) (pv 0) (by rfl))
        (pe_one (pe_cmpR op_in_seq (pe_ix ix_tup (pv 1) pe_int (fun _ _ => rfl)) (pv 0) (by rfl))))))), ?_⟩
    refine ⟨_, rfl, .ref p, .ty "tuple", _, _, true, rfl, .ty _, ty_tup ht, kit_ty (by decide +kernel), _, rfl, iteF ?_⟩
    refine ⟨_, rfl, p, _, rfl, .inr (SqT.of ht), rfl, _, rfl, iteN (by rfl) ?_⟩
    refine ⟨_, rfl, p, _, 0, _, rfl, rfl, SqT.of ht, atI_nat (j := 0) rfl, t.1, rfl, _, rfl, iteF ?_⟩
    refine ⟨_, rfl, p, _, 1, _, rfl, rfl, SqT.of ht, atI_nat (j := 1) rfl, t.2, rfl, _, rfl, iteF ?_⟩
    refine ⟨_, rfl, p, _, 0, _, rfl, rfl, SqT.of ht, atI_nat (j := 0) rfl, _, rfl, p, _, 1, _, rfl, rfl, SqT.of ht, atI_nat (j := 1) rfl, _, _, rfl, rfl, _, rfl, iteE (decide_eq_true h1) ?_⟩
    refine ⟨_, rfl, p, _, 0, _, rfl, rfl, SqT.of ht, atI_nat (j := 0) rfl, _, rfl, r_in hL ⟨_, rfl, iteE (decide_eq_true h2) ?_⟩⟩
    refine ⟨_, rfl, p, _, 1, _, rfl, rfl, SqT.of ht, atI_nat (j := 1) rfl, _, rfl, r_in hL (blT (Q := Q) (decide_eq_true h3) q)⟩
def spRight : Sp := fun vs H Q _ => ∃ (b : Addr) (ns : List Int) (v : V) (E : List Tie), vs = [.ref b, v] ∧ LI H b ns ∧ isTies H v E ∧ ns.Nodup ∧ 1 ≤ ns.length ∧ ns.length ≤ 20 ∧ (∀ n ∈ ns, 0 ≤ n) ∧ isTree ns E = true ∧ ∀ H', Same H H' → Q (.bl true) H'
theorem kn_right (S : Std K mg "is_right_tree" s_is_right_tree) (T : Txt mg) (k1 : Kn P w K mg base 2 "is_tie" p_is_tie spTie) (k2 : Kn P w K mg base 2 "hang_together" p_hang_together spTog) : Kn P w K mg base 3 "is_right_tree" p_is_right_tree spRight := by
  obtain ⟨f1, fd1, G1, b1, g1, e1⟩ := k1
  obtain ⟨f2, fd2, G2, b2, g2, e2⟩ := k2
  refine kn_mk S c_is_right_tree (fun vs H Q E h => ?_) (fun _ _ _ _ _ _ us hl => match us, hl with | [_, _], _ => rfl) (fun f cdv A outer s H vs Q E hr h => ?_)
  · obtain ⟨b, ns, v, t, rfl, _⟩ := h
    rfl
  · obtain ⟨b, ns, v, E, rfl, hL, ⟨l, ws, rfl, hl, hE⟩, hnd, h1, h20, hpos, hT, q⟩ := h
    refine ⟨_, pss_cons (ps_if (PW.pt (pw_or (pt_not (pt_val (pe_callB call_isi (by rfl) T.isi boot_isinstance (pa_cons (pv 1) (pa_cons (pe_bltn (v := .ty "list") (by rfl) T.list boot_list rfl) pa_nil)))))
        (pw_or (pt_cmpR op_ne (pe_callB call_len_seq (by rfl) T.len PySem.boot_len (pa_cons (pv 1) pa_nil)) (pe_op op_sub (pe_callB call_len_seq (by rfl) T.len PySem.boot_len (pa_cons (pv 0) pa_nil)) pe_int) (nomark _))
        (pw_or1 (pt_not (pt_val (pe_callB (cr_all rfl) (by rfl) T.all (by decide +kernel) (pa_cons
          (pe_lc (own := [("tie", 2)]) (g := gName 2) (tt := tYes) rfl c_is_right_tree.nd (pi_list (pv 1)) (blkOk_by (N := n_is_right_tree) (sc := defScope s_is_right_tree) (by decide +kernel))
            (fun _ _ _ _ _ => pg_name (i := 2) c_is_right_tree.nd rfl (Or.inl rfl)) (fun _ _ _ _ _ => pts_nil)
            (fun _ _ _ _ _ => pe_call G1 hr (by rfl) g1 e1 b1 .nil pass0 (pa_cons (pv 0) (pa_cons (pv 2) pa_nil)))) pa_nil))))))))
        (pss_one (ps_ret pe_bl)) pss_nil)
      (pss_one (ps_ret (pe_and (pe_cmpR (op_eqD hr.units) (pv 1) (pe_callB (cr_sortedT rfl) (by rfl) T.sorted boot_sorted (pa_cons (pe_callTy (cr_setOfT rfl hr.units) (by rfl) T.set boot_set (pa_cons (pv 1) pa_nil)) pa_nil)) (nomark _))
        (pe_one (pe_call G2 hr (by rfl) g2 e2 b2 .nil pass0 (pa_cons (pv 1) (pa_cons (pv 0) pa_nil))))))), ?_⟩
    have hwl := paired_len hE
    obtain ⟨t1, t2, t3, t4⟩ := isTree_out hT
    refine ⟨_, rfl, .ref l, .ty "list", _, _, true, rfl, .ty _, ty_lst hl, kit_ty (by decide +kernel), _, rfl, iteF ?_⟩
    refine ⟨_, rfl, l, _, rfl, .inl (SqL.of hl), _, rfl, b, _, rfl, .inl (SqL.of hL), _, _, rfl, rfl, rfl, _, rfl, iteN (by rw [dV, ints_len, decide_eq_true (show (ws.length : Int) = ns.length - 1 by omega)]; rfl) ?_⟩
    refine ⟨_, rfl, l, rfl, ⟨_, SqL.of hl⟩, fun D hD => lc_gen (R := isTie) isBl mono_tie (fun _ => true) (fun _ => true) hl hE hD (by omega) (fun t ht v H1 N M s1 _ rx yes no => ?_) (fun H1 zs s1 hw hp1 => ?_)⟩
    · obtain ⟨u1, u2, u3⟩ := t2 t ht
      exact ⟨rfl, lcYes ⟨_, rfl, _, rfl, b, ns, v, t, rfl, s1 _ _ hL, rx, u1, u2, u3, yes rfl _ _ (Same.refl _) fun _ _ => rfl⟩⟩
    · rw [filter_true] at hp1
      have e := paired_bl hp1
      subst e
      have al : (E.map fun _ => true).all id = true := by
        rw [List.all_eq_true]
        intro x hx
        obtain ⟨_, _, e⟩ := List.mem_map.mp hx
        rw [← e]
        rfl
      refine ⟨D, _, rfl, SqL.of hw, ?_⟩
      rw [al]
      refine ⟨_, rfl, iteF ?_⟩
      have hl1 := s1 _ _ hl
      have hE1 : isTies H1 (.ref l) E := ⟨l, ws, rfl, hl1, paired_mono (fun _ _ r => mono_tie _ _ _ _ s1 r) hE⟩
      obtain ⟨l', ks, el, hks, hk, hks2⟩ := ties_ks hE1
      cases el
      have hkl : ks.length = E.length := by
        have := congrArg List.length hks2
        rw [List.length_map, List.length_map] at this
        exact this
      obtain ⟨B, hB⟩ := pos_bd (E := E) fun t ht => ⟨hpos _ (t2 t ht).2.1, hpos _ (t2 t ht).2.2⟩
      refine ⟨_, rfl, _, rfl, l, ks, rfl, SqL.of hks, fun p hp => SqT.of (hk p hp), by omega, fun a L na m1 m2 => ?_⟩
      have s2 : Same H1 _ := same_upd (o := SetTO P w a L) na
      refine ⟨a, L, 2, B, rfl, upd_same, fun p hp => SqT.of (s2 _ _ (hk p (m1 p hp))), by decide, fun p hp => ?_, fun L' p perm nd l64 pw np => ?_⟩
      · have : p.2 ∈ E.map tl := by
          rw [← hks2]
          exact List.mem_map.mpr ⟨p, m1 p hp, rfl⟩
        obtain ⟨t, ht, e⟩ := List.mem_map.mp this
        rw [← e]
        exact ⟨rfl, hB t ht⟩
      · have s3 : Same _ _ := same_upd (o := .lst (L'.map fun q => V.ref q.1)) np
        have hs := sorted_set hk hks2 m1 m2 hB perm nd pw (s2.trans s3) upd_same
        have e : sortT E = E := sortD_self strictT t3
        rw [e] at hs
        refine ⟨_, _, (enc_lst enc_tie).dp _ _ _ (mono_ties _ _ _ _ (s2.trans s3) hE1), (enc_lst enc_tie).dp _ _ _ hs, (enc_lst (K := K) enc_tie).shaped (by decide) _, (enc_lst (K := K) enc_tie).shaped (by decide) _, _, rfl, iteE (eqv_same (K := K) (enc_lst enc_tie) E) ?_⟩
        have s4 := s1.trans (s2.trans s3)
        refine ⟨_, rfl, _, rfl, .ref l, b, E, ns, rfl, mono_ties _ _ _ _ (s2.trans s3) hE1, s4 _ _ hL, hnd, fun z => by rw [z, List.length_nil] at h1; omega, h20, fun H2 s5 => ?_⟩
        refine blT (Q := Q) ?_ (q _ (s4.trans s5))
        exact (tog_iff hnd (fun z => by rw [z, List.length_nil] at h1; omega)).mpr (t4 hnd h1)
def spMustT : Sp := fun vs H Q _ => ∃ (b : Addr) (ns : List Int) (v : V) (E : List Tie), vs = [.ref b, v] ∧ LI H b ns ∧ isTies H v E ∧ ns.Nodup ∧ 1 ≤ ns.length ∧ ns.length ≤ 20 ∧ (∀ n ∈ ns, 0 ≤ n) ∧ isTree ns E = true ∧ ∀ H', Same H H' → Q .non H'
theorem kn_mustt (S : Std K mg "must_be_tree" s_must_be_tree) (T : Txt mg) (k1 : Kn P w K mg base 3 "is_right_tree" p_is_right_tree spRight) : Kn P w K mg base 4 "must_be_tree" p_must_be_tree spMustT := by
  obtain ⟨f1, fd1, G1, b1, g1, e1⟩ := k1
  refine kn_mk S c_must_be_tree (fun vs H Q E h => ?_) (fun _ _ _ _ _ _ us hl => match us, hl with | [_, _], _ => rfl) (fun f cdv A outer s H vs Q E hr h => ?_)
  · obtain ⟨b, ns, v, t, rfl, _⟩ := h
    rfl
  · obtain ⟨b, ns, v, E, rfl, hL, hE, hnd, h1, h20, hpos, hT, q⟩ := h
    refine ⟨_, pss_one (ps_if (pt_not (pt_val (pe_call G1 hr (by rfl) g1 e1 b1 .nil pass0 (pa_cons (pv 0) (pa_cons (pv 1) pa_nil))))) pss_never pss_nil), ?_⟩
    exact ⟨_, rfl, _, rfl, b, ns, v, E, rfl, hL, hE, hnd, h1, h20, hpos, hT, fun H1 s1 => ⟨_, rfl, iteF (q _ s1)⟩⟩
def spFirst : Sp := fun vs H Q _ => ∃ (v : V) (b : Addr) (E : List Tie) (r : List Int), vs = [v, .ref b] ∧ isTies H v E ∧ LI H b r ∧ r.Nodup ∧ 1 ≤ r.length ∧ r.length ≤ 10 ∧ (∀ n ∈ r, 0 ≤ n) ∧ isTree (sortI r) E = true ∧ ∀ H', Same H H' → Q (apV (apart E r)) H'
theorem kn_first (S : Std K mg "first_apart" s_first_apart) (T : Txt mg) (k1 : Kn P w K mg base 4 "must_be_ranking" p_must_be_ranking spMustR) (k2 : Kn P w K mg base 4 "must_be_tree" p_must_be_tree spMustT) (k3 : Kn P w K mg base 3 "apart_at" p_apart_at spApart) : Kn P w K mg base 5 "first_apart" p_first_apart spFirst := by
  obtain ⟨f1, fd1, G1, b1, g1, e1⟩ := k1
  obtain ⟨f2, fd2, G2, b2, g2, e2⟩ := k2
  obtain ⟨f3, fd3, G3, b3, g3, e3⟩ := k3
  refine kn_mk S c_first_apart (fun vs H Q E h => ?_) (fun _ _ _ _ _ _ us hl => match us, hl with | [_, _], _ => rfl) (fun f cdv A outer s H vs Q E hr h => ?_)
  · obtain ⟨v, b, E, r, rfl, _⟩ := h
    rfl
  · obtain ⟨v, b, E, r, rfl, hE, hL, hnd, h1, h10, hpos, hT, q⟩ := h
    refine ⟨_, pss_cons (ps_expr (pe_call G1 hr (by rfl) g1 e1 b1 .nil pass0 (pa_cons (pv 1) pa_nil)))
      (pss_cons (ps_expr (pe_call G2 hr (by rfl) g2 e2 b2 .nil pass0 (pa_cons (pe_callB cr_sorted (by rfl) T.sorted boot_sorted (pa_cons (pv 1) pa_nil)) (pa_cons (pv 0) pa_nil))))
      (pss_one (ps_ret (pe_call G3 (hr.mono (by decide)) (by rfl) g3 e3 b3 .nil pass0 (pa_cons (pv 0) (pa_cons (pv 1) pa_nil)))))), ?_⟩
    refine ⟨_, rfl, b, r, rfl, hL, h1, h10, hnd, hpos, fun H1 s1 => ?_⟩
    refine ⟨_, rfl, b, r, rfl, SqL.of (s1 _ _ hL), by omega, fun ns p perm ris np => ?_⟩
    have e := sorted_ints perm ris hnd
    subst e
    have s2 : Same H1 _ := same_upd (o := .lst ((sortI r).map V.int)) np
    have hl : (sortI r).length = r.length := sortD_len strictI hnd
    refine ⟨_, rfl, p, sortI r, v, E, rfl, upd_same, mono_ties _ _ _ _ (s1.trans s2) hE, sorted_nodup strictI (sortD_sorted strictI r), by omega, by omega, fun n hn => hpos n (mem_sortD.mp hn), hT, fun H2 s3 => ?_⟩
    have s4 := s1.trans (s2.trans s3)
    exact ⟨_, rfl, _, rfl, v, b, E, r, rfl, mono_ties _ _ _ _ s4 hE, s4 _ _ hL, hnd, by omega, fun H3 s5 => q _ (s4.trans s5)⟩
end
end K74
namespace K74
open PySem PySem.Spec PyProof.Rows L2
section
variable {P : Program} {w : World} {A : Around} {E : Value → Shared → Prop} {s : Shared}
/-- the set as it is made -/
abbrev newS (w : World) : Obj := { cls := .type "set", dict := none, data := .set #[] 0 (.fresh 0 0 (!w.params.followText "set-order")) }
/-- what stands behind the filling -/
def Filled (w : World) (s : Shared) (ns : List Int) (r : Value) (t : Shared) : Prop :=
  r = .none ∧ ∃ (g : Heap) (tk c : Nat), t = { s with heap := g, toks := tk } ∧ SetR w g s.heap.objs.size (fun j => decide (j ∈ ns)) c ∧ c ≤ ns.length ∧ ∀ b o, s.heap.get? b = some o → g.get? b = some o
theorem set_of_list {l : Addr} {its : Array Value} (ns : List Int) {Q : Value → Shared → Prop} (quiet : A.handled = none) (hl : s.heap.IsList l its) (hi : IntsAre its.toList ns) (room : ns.length + 1 < scanBound)
    (goOn : ∀ (g : Heap) (tk c : Nat), SetR w g s.heap.objs.size (fun j => decide (j ∈ ns)) c → c ≤ ns.length → (∀ b o, s.heap.get? b = some o → g.get? b = some o) → Q (.ref s.heap.objs.size) { s with heap := g, toks := tk }) :
    wpAny (model P w) A (call (.type "set") [.ref l]) Q E s := by
  have many : its.size = ns.length := by
    have z := IntsAre.length hi
    rwa [Array.length_toList] at z
  have ⟨c, tl, way⟩ := F.called_set.mro
  have made_ := F.called_set.made
  have sub_ := F.called_set.sub
  have notType_ := F.called_set.notType
  have canCreate_ := F.called_set.canCreate
  have one_ := F.typeCall_set_1 (.ref l)
  have init1_ := F.called_set.init.lookup
  have init2_ := F.called_set.init.bind (.ref s.heap.objs.size)
  have lset_ := F.sub_list_set
  have lfroz_ := F.sub_list_frozenset
  obtain ⟨ob, hob, kind, cap, body⟩ := hl
  obtain ⟨oc, od, odt, osl⟩ := ob
  simp only at kind body
  subst kind body
  refine wpAny_call (codeAny_of_tree (?_ : wpAny _ _ (callAny (.type "set") _) _ _ _))
  refine wpAny_pure ⟨Code.quiet_builtin _ (by decide +kernel), codeAny_builtin F.entry_type_call ?_⟩
  rw [Around.under_plain (weight_type_call_type "set" [.ref l] []) rfl]
  have atNew : (s.heap.push (newS w)).get? s.heap.objs.size = some (newS w) := Heap.get?_push_size _ rfl
  have tyNew : Shared.TypeIs { s with heap := s.heap.push (newS w) } (.ref s.heap.objs.size) "set" := ⟨_, atNew, rfl⟩
  repeat (any_goals (first | assumption | wp_step))
  refine codeAny_mono (code_set_led1 (.ref l) (E := E) (Q₁ := fun u t => u = .ref s.heap.objs.size ∧ t = { s with heap := s.heap.push (newS w) }) ⟨rfl, rfl⟩) fun r t hr => ?_
  match r, hr with
  | .error _, hr => exact hr
  | .ok (.ret u), hr =>
    obtain ⟨rfl, rfl⟩ := hr
    repeat (any_goals (first | assumption | wp_step))
    refine codeAny_mono (codeAny_call_builtin (R := wants (Filled w s ns) E) F.called_set.init.plain F.entry_set_init (check_set_init_1 tyNew ?_)) fun r₂ t₂ hr₂ => ?_
    · have ob1 : (s.heap.push (newS w)).get? l = some { cls := .type "list", dict := od, data := .seq its cap, slots := osl } := Heap.get?_push_of_some _ hob
      have lt1 : l < s.heap.objs.size := Heap.lt_size hob
      have isl1 : (s.heap.push (newS w)).IsList l its := ⟨_, ob1, rfl, cap, rfl⟩
      have noDict : (Value.type "list" == Value.type "dict") = false := by decide
      unfold Builtin.«set.__init__» noKeywords Builtin.Frozenset.updateFrom
      generalize hIter : pyIter = iterOf
      wp_walk
      subst hIter
      refine wpAny_pyIter_list isl1 ?_
      refine wpAny_bind (wpAny_runValue ?_)
      have quiet3 : A.in1.in1.in1.handled = none := by simp [quiet]
      have size1 : (s.heap.push (newS w)).objs.size = s.heap.objs.size + 1 := Heap.size_push ..
      have ne1 : l ≠ (s.heap.push (newS w)).objs.size := by
        rw [size1]
        exact Nat.ne_of_lt (Nat.lt_succ_of_lt lt1)
      have apart1 : s.heap.objs.size ∉ [(s.heap.push (newS w)).objs.size, l] := by
        rw [size1]
        simp only [List.mem_cons, List.mem_singleton, List.not_mem_nil, or_false, not_or]
        exact ⟨Nat.ne_of_lt (Nat.lt_succ_self _), Nat.ne_of_gt lt1⟩
      have items1 : ∀ (i : Nat) (v : Value), its[i]? = some v → ∃ k t, ns[i]? = some k ∧ v = .int k t := fun i v hv => by
        have lt2 : i < ns.length := many ▸ (Array.getElem?_eq_some_iff.mp hv).1
        obtain ⟨t, e⟩ := PyProof.Rows.IntsAre.int_at hi i v (by rw [Array.getElem?_toList]; exact hv)
        refine ⟨ns[i], t, List.getElem?_eq_getElem lt2, ?_⟩
        rw [e, List.getD_eq_getElem?_getD, List.getElem?_eq_getElem lt2]
        rfl
      refine set_update_ints ((Walks.list quiet3 _ l ne1 its).toS) s.heap.objs.size apart1 ns many room items1 (its.size - 0) 0 _ (by omega) (Nat.zero_le _) ⟨⟨_, Heap.get?_push_size _ rfl, rfl, rfl⟩, (isl1.push _)⟩ ⟨0, Nat.le_refl 0, ?_⟩ ?_
      · refine setR_new_at ?_
        exact Heap.get?_push_of_some _ atNew
      · intro t c₂ mv few_ R₂
        obtain ⟨g, gg, gd, gt, go⟩ := t
        obtain rfl : gg = s.gens := mv.gens
        obtain rfl : gd = s.drawn := mv.drawn
        obtain rfl : go = s.os := mv.os
        refine wpAny_pure (?_ : wpAny _ _ (ret Value.none) _ _ _)
        refine wpAny_pure ⟨rfl, g, gt, c₂, rfl, R₂, many ▸ few_, fun b o e => ?_⟩
        have lt3 : b < s.heap.objs.size := Heap.lt_size e
        refine mv.heap b o ?_ (Heap.get?_push_of_some _ (Heap.get?_push_of_some _ e))
        rw [size1]
        simp only [List.mem_cons, List.mem_singleton, List.not_mem_nil, or_false, not_or]
        exact ⟨Nat.ne_of_lt lt3, Nat.ne_of_lt (Nat.lt_succ_of_lt lt3)⟩
    · match r₂, hr₂ with
      | .error _, hr₂ => exact hr₂
      | .ok (.ret u), hr₂ =>
        obtain ⟨rfl, g, tk, c₂, rfl, R₂, few_, keep_⟩ := hr₂
        repeat (any_goals (first | assumption | wp_step))
        exact goOn _ _ _ R₂ few_ keep_
end
/-- set(xs), xs a list of ints -/
def rSetL (K : PySem.W.Frag) (w : World) : List V → Hp → VK → Prop := fun xs H Q => ∃ (a : Addr) (ns : List Int), xs = [.ref a] ∧ SqL K H a (ns.map V.int) ∧ ns.length ≤ 1000 ∧
  ∀ p c, H p = none → c ≤ ns.length → Q (.ref p) (upd H p (SetO w p (fun j => decide (j ∈ ns)) c))
theorem cr_setL {X : Cx} (hc : X.calm = true) : CallR X (.type "set") (rSetL X.K X.w) := by
  intro pins s σ H xs us Q I r h
  obtain ⟨a, ns, rfl, hq, hl, q⟩ := h
  rw [Vals.ref1 r]
  obtain ⟨its, rv, pl, hz⟩ := I.list hq
  refine set_of_list ns (I.ok.hd hc) pl.isList (by simpa using rv.ints) (by unfold scanBound; omega) fun g tk c R few_ keep_ => ?_
  have free_ := I.hok.fresh (Nat.le_refl s.heap.objs.size)
  exact ⟨.ref _, _, I.laid keep_ (Nat.le_refl _) (setO_new R), rfl, q _ c free_ few_⟩
end K74
namespace K74
open PySem PySem.Spec PyProof.Rows L2
theorem cut_mid (xs : List V) (k m : Nat) (h : k ≤ m) : cutV xs (some (k : Int)) (some (m : Int)) = (xs.drop k).take (m - k) := by
  unfold cutV
  rw [HT.sIx_nat, HT.sIx_nat]
  rcases Nat.le_total k xs.length with z | z
  · rw [Nat.min_eq_left z]
    rcases Nat.le_total m xs.length with y | y
    · rw [Nat.min_eq_left y]
    · rw [Nat.min_eq_right y, List.take_of_length_le (by rw [List.length_drop]; omega), List.take_of_length_le (by rw [List.length_drop]; omega)]
  · rw [Nat.min_eq_right z, List.drop_length, List.drop_of_length_le z, List.take_nil, List.take_nil]
/-! ### index, of ints -/
theorem idx_get {ns : List Int} {n : Int} (hn : n ∈ ns) : (ns.map V.int)[ns.idxOf n]? = some (V.int n) := by
  rw [List.getElem?_map, List.getElem?_eq_getElem (List.idxOf_lt_length_iff.mpr hn), List.getElem_idxOf]
  rfl
theorem idx_eq {n : Int} : eqV (.int n) (.int n) = true := by simp [eqV]
theorem idx_first {ns : List Int} {n : Int} (hn : n ∈ ns) (m : Nat) (z : V) (hm : m < ns.idxOf n) (hz : (ns.map V.int)[m]? = some z) : eqV z (.int n) = false := by
  have hi := List.idxOf_lt_length_iff.mpr hn
  rw [List.getElem?_map] at hz
  have hm' : m < ns.length := by omega
  rw [List.getElem?_eq_getElem hm'] at hz
  have ez : V.int ns[m] = z := Option.some.inj hz
  rw [← ez]
  have : ns[m] ≠ n := fun e => by
    have : ns.idxOf n ≤ m := by
      have := prefix_mem (q := ns) (n := n) (k := m + 1) (List.mem_take_iff_getElem.mpr ⟨m, by omega, e⟩)
      omega
    omega
  simp [eqV, this]
theorem li_of {H : Hp} {D : Addr} {ws : List V} {ns : List Int} {p : Int → Bool} (hw : H D = some (.lst ws)) (hp : Paired (isInt H) ws ((ns.filter p).map fun x => x)) : LI H D (ns.filter p) := by
  rw [filter_ints hp] at hw
  exact hw
/-- one more ranking looked at -/
theorem hangs_take {folk : List (List Int)} {L f0 : List Int} {n : Int} {i : Nat} {r : List Int} (h : folk[i]? = some r) : (folk.take (i + 1)).foldl (fun found r => found.filter fun x => decide (x ∈ allowed r L n)) f0 = ((folk.take i).foldl (fun found r => found.filter fun x => decide (x ∈ allowed r L n)) f0).filter fun x => decide (x ∈ allowed r L n) := by
  have hi := (List.getElem?_eq_some_iff.mp h).1
  rw [List.take_succ_eq_append_getElem hi, List.foldl_append, (List.getElem?_eq_some_iff.mp h).2]
  rfl
theorem hangs_len {folk : List (List Int)} {L : List Int} {n : Int} : ∀ (folk : List (List Int)) (f0 : List Int), (folk.foldl (fun found r => found.filter fun x => decide (x ∈ allowed r L n)) f0).length ≤ f0.length
  | [], _ => Nat.le_refl _
  | r :: folk, f0 => Nat.le_trans (hangs_len (folk := folk) folk _) (List.length_filter_le _ _)
section
variable {P : Program} {w : World} {K : PySem.W.Frag} {mg : Str → Option Value} {base : Heap}
def spAllowed : Sp := fun vs H Q _ => ∃ (a b : Addr) (r L : List Int) (n : Int), vs = [.ref a, .ref b, .int n] ∧ LI H a r ∧ LI H b L ∧ r.length ≤ 20 ∧ n ∈ rest r L ∧ ∀ H' p, Same H H' → H p = none → LI H' p (allowed r L n) → Q (.ref p) H'
theorem kn_allowed (S : Std K mg "allowed" s_allowed) (T : Txt mg) : Kn P w K mg base 1 "allowed" p_allowed spAllowed := by
  refine kn_mk S c_allowed (fun vs H Q E h => ?_) (fun _ _ _ _ _ _ us hl => match us, hl with | [_, _, _], _ => rfl) (fun f cdv A outer s H vs Q E hr h => ?_)
  · obtain ⟨a, b, r, L, n, rfl, _⟩ := h
    rfl
  · obtain ⟨a, b, r, L, n, rfl, hR, hL, hlen, hn, q⟩ := h
    refine ⟨_, pss_cons (ps_setLc (i := 3) (own := [("one", 5)]) (g := gName 5) (tt := tB (tOp (rIn K false) (tVar 5) (tVar 1))) rfl c_allowed.nd rfl rfl (sw_true rfl rfl rfl (by decide +kernel)) (pi_list (pv 0)) (blkOk_by (N := n_allowed) (sc := defScope s_allowed) (by decide +kernel))
        (fun _ _ _ _ _ => pg_name (i := 5) c_allowed.nd rfl (Or.inl rfl)) (fun _ _ _ _ _ => pts_one (pt_cmpR (r := rIn K false) op_in_seq (pv 5) (pv 1) (by rfl))) (fun _ _ _ _ _ => pv 5))
      (pss_cons (ps_set (i := 4) c_allowed.nd rfl (Or.inl rfl) (pe_bm PySem.F.plainAttrs_list PySem.F.slot_list_index PySem.F.type_list_index mt_index (pv 3) (pa_cons (pv 2) pa_nil)))
      (pss_cons (ps_if (pt_cmpR op_eq (pv 4) pe_int (nomark _)) (pss_one (ps_ret (pe_slice sl_list (pv 3) (po_some pe_int) (po_some pe_int)))) pss_nil)
      (pss_one (ps_ret (pe_slice sl_list (pv 3) po_none (po_some (pv 4))))))), ?_⟩
    refine ⟨_, rfl, a, rfl, ⟨_, SqL.of hR⟩, fun D hD => lc_gen (R := isInt) isInt mono_int (fun x => decide (x ∈ L)) (fun x => x) hR (int_paired r) hD (by omega) (fun x hx v H1 N M s1 _ rx yes no => ?_) (fun H1 ws s1 hw hp => ?_)⟩
    · subst rx
      refine ⟨rfl, _, rfl, _, rfl, r_in (s1 _ _ hL) ⟨_, rfl, ?_⟩⟩
      refine ite2 (fun e => ?_) (fun e => ?_)
      · exact ⟨_, rfl, yes e _ _ (Same.refl _) fun _ _ => rfl⟩
      · exact no (by simpa using e) _ (Same.refl _)
    · have hw : LI H1 D (rest r L) := li_of hw hp
      refine ⟨_, rfl, .inl ⟨rfl, _, SqL.of hw⟩, _, rfl, D, _, .int n, _, .int n, rfl, rfl, SqL.of hw, rfl, flat_ints _, idx_get hn, idx_eq, idx_first hn, ?_⟩
      refine ⟨_, rfl, rfl, _, rfl, ?_⟩
      rw [dV]
      refine ite2 (fun e => ?_) (fun e => ?_)
      · have e := of_decide_eq_true e
        refine ⟨_, rfl, 1, rfl, 2, rfl, D, _, rfl, SqL.of hw, fun p np => ?_⟩
        refine q _ p (s1.trans (same_upd np)) (s1.free np) ?_
        show upd H1 p _ p = _
        rw [upd_same, show (1 : Int) = ((1 : Nat) : Int) from rfl, show (2 : Int) = ((2 : Nat) : Int) from rfl, cut_mid _ 1 2 (by decide), ← List.map_drop, ← List.map_take]
        unfold allowed
        rw [if_pos (by omega)]
      · have e : ¬ ((rest r L).idxOf n : Int) = 0 := fun z => e (decide_eq_true z)
        refine ⟨_, rfl, _, rfl, _, rfl, D, _, rfl, SqL.of hw, fun p np => ?_⟩
        refine q _ p (s1.trans (same_upd np)) (s1.free np) ?_
        show upd H1 p _ p = _
        rw [upd_same, cut_to, ← List.map_take]
        unfold allowed
        rw [if_neg (by omega)]
def spHangs : Sp := fun vs H Q _ => ∃ (v : V) (b : Addr) (folk : List (List Int)) (L : List Int) (n : Int), vs = [v, .ref b, .int n] ∧ isFolk H v folk ∧ LI H b L ∧ L.length ≤ 20 ∧ (∀ r ∈ folk, r.length ≤ 20 ∧ n ∈ rest r L) ∧ ∀ H' p, Same H H' → H p = none → LI H' p (hangs folk L n) → Q (.ref p) H'
theorem kn_hangs (S : Std K mg "hangs_at" s_hangs_at) (T : Txt mg) (k1 : Kn P w K mg base 1 "allowed" p_allowed spAllowed) : Kn P w K mg base 2 "hangs_at" p_hangs_at spHangs := by
  obtain ⟨f1, fd1, G1, b1, g1, e1⟩ := k1
  refine kn_mk S c_hangs_at (fun vs H Q E h => ?_) (fun _ _ _ _ _ _ us hl => match us, hl with | [_, _, _], _ => rfl) (fun f cdv A outer s H vs Q E hr h => ?_)
  · obtain ⟨v, b, folk, L, n, rfl, _⟩ := h
    rfl
  · obtain ⟨v, b, folk, L, n, rfl, ⟨a, ws, rfl, hF, hp⟩, hL, hlen, hall, q⟩ := h
    refine ⟨_, pss_cons (ps_setLc (i := 3) (own := [("other", 6)]) (g := gName 6) (tt := tB (tOp rNe (tVar 6) (tVar 2))) rfl c_hangs_at.nd rfl rfl (sw_true rfl rfl rfl (by decide +kernel)) (pi_list (pv 1)) (blkOk_by (N := n_hangs_at) (sc := defScope s_hangs_at) (by decide +kernel))
        (fun _ _ _ _ _ => pg_name (i := 6) c_hangs_at.nd rfl (Or.inl rfl)) (fun _ _ _ _ _ => pts_one (pt_cmpR (r := rNe) op_ne (pv 6) (pv 2) (nomark _))) (fun _ _ _ _ _ => pv 6))
      (pss_cons (ps_for PassesOwn.never rfl (pi_list (pv 0)) (pg_name (i := 4) c_hangs_at.nd rfl (Or.inl rfl))
        (pss_cons (ps_set (i := 5) c_hangs_at.nd rfl (Or.inr rfl) (pe_call G1 hr (by rfl) g1 e1 b1 .nil pass0 (pa_cons (pv 4) (pa_cons (pv 1) (pa_cons (pv 2) pa_nil)))))
        (pss_one (ps_setLc (i := 3) (own := [("other", 6)]) (g := gName 6) (tt := tB (tOp (rIn K false) (tVar 6) (tVar 5))) rfl c_hangs_at.nd rfl rfl (sw_true rfl rfl rfl (by decide +kernel)) (pi_list (pv 3)) (blkOk_by (N := n_hangs_at) (sc := defScope s_hangs_at) (by decide +kernel))
          (fun _ _ _ _ _ => pg_name (i := 6) c_hangs_at.nd rfl (Or.inl rfl)) (fun _ _ _ _ _ => pts_one (pt_cmpR (r := rIn K false) op_in_seq (pv 6) (pv 5) (by rfl))) (fun _ _ _ _ _ => pv 6)))))
      (pss_one (ps_ret (pv 3)))), ?_⟩
    refine ⟨_, rfl, b, rfl, ⟨_, SqL.of hL⟩, fun D hD => lc_gen (R := isInt) isInt mono_int (fun x => decide (x ≠ n)) (fun x => x) hL (int_paired L) hD (by omega) (fun x hx v H1 N M s1 _ rx yes no => ?_) (fun H1 zs s1 hw hp1 => ?_)⟩
    · subst rx
      refine ⟨rfl, _, rfl, _, rfl, rfl, _, rfl, ?_⟩
      rw [dV]
      refine ite2 (fun e => ?_) (fun e => ?_)
      · exact ⟨_, rfl, yes (by simpa using e) _ _ (Same.refl _) fun _ _ => rfl⟩
      · exact no (by simpa using e) _ (Same.refl _)
    · have hw : LI H1 D (L.filter fun x => decide (x ≠ n)) := li_of hw hp1
      refine ⟨_, rfl, a, rfl, ⟨_, SqL.of (s1 _ _ hF)⟩, for_rel (R := isLst isInt) (xs := folk) (paired_len hp) (fun i σ H' => ∃ (pf : Addr) (o4 o5 : Option V), σ = [some (.ref a), some (.ref b), some (.int n), some (.ref pf), o4, o5, none] ∧ Same H H' ∧ H pf = none ∧
        LI H' pf ((folk.take i).foldl (fun found r => found.filter fun x => decide (x ∈ allowed r L n)) (L.filter fun x => decide (x ≠ n))))
        ⟨D, none, none, rfl, s1, hD, hw⟩ (fun i σ H' ⟨_, _, _, _, s2, _, _⟩ => ⟨s2 _ _ hF, paired_mono (fun _ _ r => mono_rk _ _ _ _ s2 r) hp⟩) (fun i r v σ H2 hri hi rr hP => ?_) (fun σ H2 hP => ?_)⟩
      · obtain ⟨pf, o4, o5, rfl, s2, n2, hf⟩ := hP
        obtain ⟨c, rfl, hc⟩ := isLst_int rr
        obtain ⟨hr20, hnr⟩ := hall r (List.mem_of_getElem? hri)
        rw [hangs_take hri]
        have hfl : ((folk.take i).foldl (fun found r => found.filter fun x => decide (x ∈ allowed r L n)) (L.filter fun x => decide (x ≠ n))).length ≤ L.length :=
          Nat.le_trans (hangs_len (folk := folk) _ _) (List.length_filter_le _ _)
        generalize (folk.take i).foldl (fun found r => found.filter fun x => decide (x ∈ allowed r L n)) (L.filter fun x => decide (x ≠ n)) = f at *
        refine ⟨_, rfl, _, rfl, _, rfl, c, b, r, L, n, rfl, hc, s2 _ _ hL, hr20, hnr, fun H3 p3 s3 n3 h3 => ?_⟩
        have hf3 := s3 _ _ hf
        refine ⟨_, rfl, pf, rfl, ⟨_, SqL.of hf3⟩, fun D hD => lc_gen (R := isInt) isInt mono_int (fun x => decide (x ∈ allowed r L n)) (fun x => x) hf3 (int_paired f) hD (by omega) (fun x hx v H4 N M s4 _ rx yes no => ?_) (fun H4 zs s4 hw hp4 => ?_)⟩
        · subst rx
          refine ⟨rfl, _, rfl, _, rfl, r_in (s4 _ _ h3) ⟨_, rfl, ?_⟩⟩
          refine ite2 (fun e => ?_) (fun e => ?_)
          · exact ⟨_, rfl, yes e _ _ (Same.refl _) fun _ _ => rfl⟩
          · exact no (by simpa using e) _ (Same.refl _)
        · have hw := li_of hw hp4
          exact ⟨D, _, _, rfl, s2.trans (s3.trans s4), (s2.trans s3).free hD, hw⟩
      · obtain ⟨pf, o4, o5, rfl, s2, n2, hf⟩ := hP
        rw [List.take_length] at hf
        exact ⟨_, rfl, q _ pf s2 n2 hf⟩
end
end K74
namespace K74
open PySem PySem.Spec PyProof.Rows L2
theorem rep_one {α : Type} (xs : List α) : (List.replicate ((1 : Int).toNat) xs).flatten = xs := by simp
theorem rep_none {α : Type} (xs : List α) : (List.replicate ((0 : Int).toNat) xs).flatten = [] := by simp
/-- the comprehension within lasts -/
def lcOf : Stmt → Expr
  | .Return (some (.Call _ [.Call _ [e] _ _] _ _)) _ => e
  | _ => .Constant .none 0 ⟨0, 0, 0, 0⟩
def lcScope : Expr → Scope
  | .ListComp _ _ sc _ => sc
  | _ => defScope s_lasts
def scLasts : Scope := relS (lcScope (lcOf ((defBody s_lasts).getD 0 (.Pass ⟨0, 0, 0, 0⟩)))) (defScope s_lasts)
def scLLasts : Scope := relS (lcScope (lcOf ((defBody s_L_lasts).getD 0 (.Pass ⟨0, 0, 0, 0⟩)))) (defScope s_L_lasts)
section
variable {P : Program} {w : World} {K : PySem.W.Frag} {mg : Str → Option Value} {base : Heap}
theorem kn_lhangs (S : Std K mg "_law_hangs" s_L_hangs) (T : Txt mg) : Kn P w K mg base 1 "_law_hangs" p_L_hangs spHangs := by
  refine kn_mk S c_L_hangs (fun vs H Q E h => ?_) (fun _ _ _ _ _ _ us hl => match us, hl with | [_, _, _], _ => rfl) (fun f cdv A outer s H vs Q E hr h => ?_)
  · obtain ⟨v, b, folk, L, n, rfl, _⟩ := h
    rfl
  · obtain ⟨v, b, folk, L, n, rfl, ⟨a, ws, rfl, hF, hp⟩, hL, hlen, hall, q⟩ := h
    refine ⟨_, pss_cons (ps_setLc (i := 3) (own := [("_law_other", 8)]) (g := gName 8) (tt := tB (tOp rNe (tVar 8) (tVar 2))) rfl c_L_hangs.nd rfl rfl (sw_true rfl rfl rfl (by decide +kernel)) (pi_list (pv 1)) (blkOk_by (N := n_L_hangs) (sc := defScope s_L_hangs) (by decide +kernel))
        (fun _ _ _ _ _ => pg_name (i := 8) c_L_hangs.nd rfl (Or.inl rfl)) (fun _ _ _ _ _ => pts_one (pt_cmpR (r := rNe) op_ne (pv 8) (pv 2) (nomark _))) (fun _ _ _ _ _ => pv 8))
      (pss_cons (ps_for PassesOwn.never rfl (pi_list (pv 0)) (pg_name (i := 4) c_L_hangs.nd rfl (Or.inl rfl))
        (pss_cons (ps_setLc (i := 5) (own := [("_law_one", 9)]) (g := gName 9) (tt := tB (tOp (rIn K false) (tVar 9) (tVar 1))) rfl c_L_hangs.nd rfl rfl (sw_true rfl rfl rfl (by decide +kernel)) (pi_list (pv 4)) (blkOk_by (N := n_L_hangs) (sc := defScope s_L_hangs) (by decide +kernel))
          (fun _ _ _ _ _ => pg_name (i := 9) c_L_hangs.nd rfl (Or.inl rfl)) (fun _ _ _ _ _ => pts_one (pt_cmpR (r := rIn K false) op_in_seq (pv 9) (pv 1) (by rfl))) (fun _ _ _ _ _ => pv 9))
        (pss_cons (ps_set (i := 6) c_L_hangs.nd rfl (Or.inl rfl) (pe_bm PySem.F.plainAttrs_list PySem.F.slot_list_index PySem.F.type_list_index mt_index (pv 5) (pa_cons (pv 2) pa_nil)))
        (pss_cons (ps_set (i := 7) c_L_hangs.nd rfl (Or.inr rfl) (pe_op op_cat (pe_slice sl_list (pv 5) po_none (po_some (pv 6)))
          (pe_op op_rep (pe_slice sl_list (pv 5) (po_some pe_int) (po_some pe_int)) (pe_callTy call_int1 (by rfl) T.int boot_int (pa_cons (pe_cmpR op_eq (pv 6) pe_int (nomark _)) pa_nil)))))
        (pss_one (ps_setLc (i := 3) (own := [("_law_other", 8)]) (g := gName 8) (tt := tB (tOp (rIn K false) (tVar 8) (tVar 7))) rfl c_L_hangs.nd rfl rfl (sw_true rfl rfl rfl (by decide +kernel)) (pi_list (pv 3)) (blkOk_by (N := n_L_hangs) (sc := defScope s_L_hangs) (by decide +kernel))
          (fun _ _ _ _ _ => pg_name (i := 8) c_L_hangs.nd rfl (Or.inl rfl)) (fun _ _ _ _ _ => pts_one (pt_cmpR (r := rIn K false) op_in_seq (pv 8) (pv 7) (by rfl))) (fun _ _ _ _ _ => pv 8)))))))
      (pss_one (ps_ret (pv 3)))), ?_⟩
    refine ⟨_, rfl, b, rfl, ⟨_, SqL.of hL⟩, fun D hD => lc_gen (R := isInt) isInt mono_int (fun x => decide (x ≠ n)) (fun x => x) hL (int_paired L) hD (by omega) (fun x hx v H1 N M s1 _ rx yes no => ?_) (fun H1 zs s1 hw hp1 => ?_)⟩
    · subst rx
      refine ⟨rfl, _, rfl, _, rfl, rfl, _, rfl, ?_⟩
      rw [dV]
      refine ite2 (fun e => ?_) (fun e => ?_)
      · exact ⟨_, rfl, yes (by simpa using e) _ _ (Same.refl _) fun _ _ => rfl⟩
      · exact no (by simpa using e) _ (Same.refl _)
    · have hw : LI H1 D (L.filter fun x => decide (x ≠ n)) := li_of hw hp1
      refine ⟨_, rfl, a, rfl, ⟨_, SqL.of (s1 _ _ hF)⟩, for_rel (R := isLst isInt) (xs := folk) (paired_len hp) (fun i σ H' => ∃ (pf : Addr) (o4 o5 o6 o7 : Option V), σ = [some (.ref a), some (.ref b), some (.int n), some (.ref pf), o4, o5, o6, o7, none, none] ∧ Same H H' ∧ H pf = none ∧
        LI H' pf ((folk.take i).foldl (fun found r => found.filter fun x => decide (x ∈ allowed r L n)) (L.filter fun x => decide (x ≠ n))))
        ⟨D, none, none, none, none, rfl, s1, hD, hw⟩ (fun i σ H' ⟨_, _, _, _, _, _, s2, _, _⟩ => ⟨s2 _ _ hF, paired_mono (fun _ _ r => mono_rk _ _ _ _ s2 r) hp⟩) (fun i r v σ H2 hri hi rr hP => ?_) (fun σ H2 hP => ?_)⟩
      · obtain ⟨pf, o4, o5, o6, o7, rfl, s2, n2, hf⟩ := hP
        obtain ⟨c, rfl, hc⟩ := isLst_int rr
        obtain ⟨hr20, hnr⟩ := hall r (List.mem_of_getElem? hri)
        rw [hangs_take hri]
        have hfl : ((folk.take i).foldl (fun found r => found.filter fun x => decide (x ∈ allowed r L n)) (L.filter fun x => decide (x ≠ n))).length ≤ L.length :=
          Nat.le_trans (hangs_len (folk := folk) _ _) (List.length_filter_le _ _)
        generalize (folk.take i).foldl (fun found r => found.filter fun x => decide (x ∈ allowed r L n)) (L.filter fun x => decide (x ≠ n)) = f at *
        refine ⟨_, rfl, c, rfl, ⟨_, SqL.of hc⟩, fun D hD => lc_gen (R := isInt) isInt mono_int (fun x => decide (x ∈ L)) (fun x => x) hc (int_paired r) hD (by omega) (fun x hx v H4 N M s4 _ rx yes no => ?_) (fun H3 zs s3 hw hp4 => ?_)⟩
        · subst rx
          refine ⟨rfl, _, rfl, _, rfl, r_in (s4 _ _ (s2 _ _ hL)) ⟨_, rfl, ?_⟩⟩
          refine ite2 (fun e => ?_) (fun e => ?_)
          · exact ⟨_, rfl, yes e _ _ (Same.refl _) fun _ _ => rfl⟩
          · exact no (by simpa using e) _ (Same.refl _)
        have hw : LI H3 D (rest r L) := li_of hw hp4
        have hrl : (rest r L).length ≤ r.length := List.length_filter_le _ _
        have hil := List.idxOf_lt_length_iff.mpr hnr
        refine ⟨_, rfl, .inl ⟨rfl, _, SqL.of hw⟩, _, rfl, D, _, .int n, _, .int n, rfl, rfl, SqL.of hw, rfl, flat_ints _, idx_get hnr, idx_eq, idx_first hnr, ?_⟩
        -- rest[:at]
        refine ⟨_, rfl, _, rfl, _, rfl, D, _, rfl, SqL.of hw, fun p1 np1 => ?_⟩
        have s4 : Same H3 _ := same_upd (o := .lst (cutV ((rest r L).map V.int) none (some (((rest r L).idxOf n : Nat) : Int)))) np1
        -- rest[1:2]
        refine ⟨_, rfl, 1, rfl, 2, rfl, D, _, rfl, SqL.of (s4 _ _ hw), fun p2 np2 => ?_⟩
        refine ⟨_, rfl, rfl, .inr ⟨_, rfl, ?_⟩⟩
        have h2 : cutV ((rest r L).map V.int) (some 1) (some 2) = (((rest r L).drop 1).take 1).map V.int := by
          rw [show (1 : Int) = ((1 : Nat) : Int) from rfl, show (2 : Int) = ((2 : Nat) : Int) from rfl, cut_mid _ 1 2 (by decide), ← List.map_drop, ← List.map_take]
        have h1 : cutV ((rest r L).map V.int) none (some (((rest r L).idxOf n : Nat) : Int)) = ((rest r L).take ((rest r L).idxOf n)).map V.int := by
          rw [cut_to, ← List.map_take]
        have l2 : (cutV ((rest r L).map V.int) (some 1) (some 2)).length ≤ 1 := by
          rw [h2, ints_len, List.length_take]
          omega
        generalize ek : (if decide (V.int (((rest r L).idxOf n : Nat) : Int) = V.int 0) = true then (1 : Int) else 0) = k
        have hk : k = 0 ∨ k = 1 := by
          rw [← ek]
          split
          · exact .inr rfl
          · exact .inl rfl
        have hkt : k.toNat ≤ 1 := by omega
        have hmul : (cutV ((rest r L).map V.int) (some 1) (some 2)).length * k.toNat ≤ 1 := Nat.le_trans (Nat.mul_le_mul l2 hkt) (by decide)
        refine ⟨p2, k, _, rfl, rfl, upd_same, by omega, by omega, Nat.le_trans hmul (by decide), fun p3 np3 => ?_⟩
        have s5 : Same _ (upd (upd H3 p1 _) p2 _) := same_upd (o := .lst (cutV ((rest r L).map V.int) (some 1) (some 2))) np2
        have s6 : Same _ (upd (upd (upd H3 p1 _) p2 _) p3 _) := same_upd (o := .lst (List.replicate k.toNat (cutV ((rest r L).map V.int) (some 1) (some 2))).flatten) np3
        have hlr : ((List.replicate k.toNat (cutV ((rest r L).map V.int) (some 1) (some 2))).flatten).length ≤ 1 := by
          rw [List.length_flatten, List.map_replicate, List.sum_replicate_nat]
          rw [Nat.mul_comm]
          exact hmul
        refine ⟨p1, p3, _, _, rfl, rfl, s6 _ _ (s5 _ _ upd_same), upd_same, ?_, fun p4 np4 => ?_⟩
        · rw [h1, ints_len, List.length_take]
          exact line_of (by omega)
        have e4 : cutV ((rest r L).map V.int) none (some (((rest r L).idxOf n : Nat) : Int)) ++ (List.replicate k.toNat (cutV ((rest r L).map V.int) (some 1) (some 2))).flatten = (allowed r L n).map V.int := by
          rw [h1, h2]
          unfold allowed
          by_cases z : (rest r L).idxOf n = 0
          · rw [if_pos z, ← ek, if_pos (decide_eq_true (by rw [z]; rfl)), rep_one, z]
            rfl
          · rw [if_neg z, ← ek, if_neg (fun q => z (by have := V.int.inj (of_decide_eq_true q); omega)), rep_none, List.append_nil]
        rw [e4]
        have s7 : Same _ (upd (upd (upd (upd H3 p1 _) p2 _) p3 _) p4 _) := same_upd (o := .lst ((allowed r L n).map V.int)) np4
        have s8 := s3.trans (s4.trans (s5.trans (s6.trans s7)))
        have hf3 := s8 _ _ hf
        have h4 : ∀ H7, LI (upd H7 p4 (.lst ((allowed r L n).map V.int))) p4 (allowed r L n) := fun _ => upd_same
        refine ⟨_, rfl, pf, rfl, ⟨_, SqL.of hf3⟩, fun D hD => lc_gen (R := isInt) isInt mono_int (fun x => decide (x ∈ allowed r L n)) (fun x => x) hf3 (int_paired f) hD (by omega) (fun x hx v H4 N M s4 _ rx yes no => ?_) (fun H4 zs s4 hw hp4 => ?_)⟩
        · subst rx
          refine ⟨rfl, _, rfl, _, rfl, r_in (s4 _ _ (h4 _)) ⟨_, rfl, ?_⟩⟩
          refine ite2 (fun e => ?_) (fun e => ?_)
          · exact ⟨_, rfl, yes e _ _ (Same.refl _) fun _ _ => rfl⟩
          · exact no (by simpa using e) _ (Same.refl _)
        · have hw := li_of hw hp4
          exact ⟨D, _, _, _, _, rfl, s2.trans (s8.trans s4), (s2.trans s8).free hD, hw⟩
      · obtain ⟨pf, o4, o5, o6, o7, rfl, s2, n2, hf⟩ := hP
        rw [List.take_length] at hf
        exact ⟨_, rfl, q _ pf s2 n2 hf⟩
/-! ### lasts -/
def spLasts : Sp := fun vs H Q _ => ∃ (v : V) (b : Addr) (folk : List (List Int)) (L : List Int), vs = [v, .ref b] ∧ isFolk H v folk ∧ LI H b L ∧ folk.length ≤ 20 ∧ (∀ r ∈ folk, r.length ≤ 20 ∧ rest r L ≠ []) ∧ ∀ H' p, Same H H' → H p = none → LI H' p (lasts folk L) → Q (.ref p) H'
theorem kn_lasts (S : Std K mg "lasts" s_lasts) (T : Txt mg) : Kn P w K mg base 1 "lasts" p_lasts spLasts := by
  refine kn_mk S c_lasts (fun vs H Q E h => ?_) (fun _ _ _ _ _ _ us hl => match us, hl with | [_, _], _ => rfl) (fun f cdv A outer s H vs Q E hr h => ?_)
  · obtain ⟨v, b, folk, L, rfl, _⟩ := h
    rfl
  · obtain ⟨v, b, folk, L, rfl, ⟨a, ws, rfl, hF, hp⟩, hL, hlen, hall, q⟩ := h
    refine ⟨_, pss_one (ps_ret (pe_callB (cr_sortedSet rfl) (by rfl) T.sorted boot_sorted (pa_cons (pe_callTy (cr_setL rfl) (by rfl) T.set boot_set (pa_cons
      (pe_lc (own := [("ranking", 2)]) (g := gName 2) (tt := tYes) rfl c_lasts.nd (pi_list (pv 0)) (blkOk_by (N := n_lasts) (sc := defScope s_lasts) (by decide +kernel))
        (fun _ _ _ _ _ => pg_name (i := 2) c_lasts.nd rfl (Or.inl rfl)) (fun _ _ _ _ _ => pts_nil)
        (fun _ _ _ _ _ => pe_ix (r := rIxL K) ix_list
          (pe_lc (wi := iList K (tVar 2)) (own := [("name", 3)]) (g := gName 3) (tt := tB (tOp (rIn K false) (tVar 3) (tVar 1))) rfl c_lasts.nd (pi_list (pv 2)) (blkOk_by (N := n_lasts) (sc := scLasts) (by decide +kernel))
            (fun _ _ _ _ _ => pg_name (i := 3) c_lasts.nd rfl (Or.inl rfl)) (fun _ _ _ _ _ => pts_one (pt_cmpR (r := rIn K false) op_in_seq (pv 3) (pv 1) (by rfl))) (fun _ _ _ _ _ => pv 3))
          (pe_un un_neg pe_int) (fun _ _ => rfl))) pa_nil)) pa_nil))), ?_⟩
    have hwl := paired_len hp
    refine ⟨_, rfl, a, rfl, ⟨_, SqL.of hF⟩, fun D hD => lc_gen (R := isLst isInt) isInt mono_rk (fun _ => true) (fun r => lastOf r L) hF hp hD (by omega) (fun r hrr v H1 N M s1 _ rx yes no => ?_) (fun H1 zs s1 hw hp1 => ?_)⟩
    · obtain ⟨c, rfl, hc⟩ := isLst_int rx
      obtain ⟨hr20, hne⟩ := hall r hrr
      refine ⟨rfl, lcYes ⟨_, rfl, c, rfl, ⟨_, SqL.of hc⟩, fun D hD => lc_gen (R := isInt) isInt mono_int (fun x => decide (x ∈ L)) (fun x => x) hc (int_paired r) hD (by omega) (fun x hx v H4 N M s4 _ rx yes no => ?_) (fun H3 zs s3 hw hp4 => ?_)⟩⟩
      · subst rx
        refine ⟨rfl, _, rfl, _, rfl, r_in (s4 _ _ (s1 _ _ hL)) ⟨_, rfl, ?_⟩⟩
        refine ite2 (fun e => ?_) (fun e => ?_)
        · exact ⟨_, rfl, yes e _ _ (Same.refl _) fun _ _ => rfl⟩
        · exact no (by simpa using e) _ (Same.refl _)
      · have hw : LI H3 D (rest r L) := li_of hw hp4
        obtain ⟨q0, e0⟩ := lastOf_mem hne
        have hat : atI ((rest r L).map V.int) (-1) = some (.int (lastOf r L)) := by
          have e1 : (rest r L).map V.int = q0.map V.int ++ [.int (lastOf r L)] := by
            rw [e0, List.map_append]
            rfl
          rw [e1]
          exact atI_last _ _
        exact ⟨1, rfl, D, _, -1, _, rfl, rfl, SqL.of hw, hat, yes rfl _ _ s3 fun _ _ => rfl⟩
    · rw [filter_true] at hp1
      have e := paired_int hp1
      subst e
      refine ⟨D, folk.map fun r => lastOf r L, rfl, SqL.of hw, by rw [List.length_map]; omega, fun p c np hc => ?_⟩
      rw [List.length_map] at hc
      refine ⟨p, _, c, rfl, upd_same, by omega, fun ns p2 pw mem hl np2 => ?_⟩
      have e : ns = lasts folk L := sortD_of strictI pw fun x => (mem x).trans (by rw [decide_eq_true_iff])
      subst e
      exact q _ p2 (s1.trans ((same_upd np).trans (same_upd np2))) ((s1.trans (same_upd np)).free np2) upd_same
theorem kn_llasts (S : Std K mg "_law_lasts" s_L_lasts) (T : Txt mg) : Kn P w K mg base 1 "_law_lasts" p_L_lasts spLasts := by
  refine kn_mk S c_L_lasts (fun vs H Q E h => ?_) (fun _ _ _ _ _ _ us hl => match us, hl with | [_, _], _ => rfl) (fun f cdv A outer s H vs Q E hr h => ?_)
  · obtain ⟨v, b, folk, L, rfl, _⟩ := h
    rfl
  · obtain ⟨v, b, folk, L, rfl, ⟨a, ws, rfl, hF, hp⟩, hL, hlen, hall, q⟩ := h
    refine ⟨_, pss_one (ps_ret (pe_callB (cr_sortedSet rfl) (by rfl) T.sorted boot_sorted (pa_cons (pe_callTy (cr_setL rfl) (by rfl) T.set boot_set (pa_cons
      (pe_lc (own := [("_law_ranking", 2)]) (g := gName 2) (tt := tYes) rfl c_L_lasts.nd (pi_list (pv 0)) (blkOk_by (N := n_L_lasts) (sc := defScope s_L_lasts) (by decide +kernel))
        (fun _ _ _ _ _ => pg_name (i := 2) c_L_lasts.nd rfl (Or.inl rfl)) (fun _ _ _ _ _ => pts_nil)
        (fun _ _ _ _ _ => pe_ix (r := rIxL K) ix_list
          (pe_lc (wi := iList K (tVar 2)) (own := [("_law_name", 3)]) (g := gName 3) (tt := tB (tOp (rIn K false) (tVar 3) (tVar 1))) rfl c_L_lasts.nd (pi_list (pv 2)) (blkOk_by (N := n_L_lasts) (sc := scLLasts) (by decide +kernel))
            (fun _ _ _ _ _ => pg_name (i := 3) c_L_lasts.nd rfl (Or.inl rfl)) (fun _ _ _ _ _ => pts_one (pt_cmpR (r := rIn K false) op_in_seq (pv 3) (pv 1) (by rfl))) (fun _ _ _ _ _ => pv 3))
          (pe_un un_neg pe_int) (fun _ _ => rfl))) pa_nil)) pa_nil))), ?_⟩
    have hwl := paired_len hp
    refine ⟨_, rfl, a, rfl, ⟨_, SqL.of hF⟩, fun D hD => lc_gen (R := isLst isInt) isInt mono_rk (fun _ => true) (fun r => lastOf r L) hF hp hD (by omega) (fun r hrr v H1 N M s1 _ rx yes no => ?_) (fun H1 zs s1 hw hp1 => ?_)⟩
    · obtain ⟨c, rfl, hc⟩ := isLst_int rx
      obtain ⟨hr20, hne⟩ := hall r hrr
      refine ⟨rfl, lcYes ⟨_, rfl, c, rfl, ⟨_, SqL.of hc⟩, fun D hD => lc_gen (R := isInt) isInt mono_int (fun x => decide (x ∈ L)) (fun x => x) hc (int_paired r) hD (by omega) (fun x hx v H4 N M s4 _ rx yes no => ?_) (fun H3 zs s3 hw hp4 => ?_)⟩⟩
      · subst rx
        refine ⟨rfl, _, rfl, _, rfl, r_in (s4 _ _ (s1 _ _ hL)) ⟨_, rfl, ?_⟩⟩
        refine ite2 (fun e => ?_) (fun e => ?_)
        · exact ⟨_, rfl, yes e _ _ (Same.refl _) fun _ _ => rfl⟩
        · exact no (by simpa using e) _ (Same.refl _)
      · have hw : LI H3 D (rest r L) := li_of hw hp4
        obtain ⟨q0, e0⟩ := lastOf_mem hne
        have hat : atI ((rest r L).map V.int) (-1) = some (.int (lastOf r L)) := by
          have e1 : (rest r L).map V.int = q0.map V.int ++ [.int (lastOf r L)] := by
            rw [e0, List.map_append]
            rfl
          rw [e1]
          exact atI_last _ _
        exact ⟨1, rfl, D, _, -1, _, rfl, rfl, SqL.of hw, hat, yes rfl _ _ s3 fun _ _ => rfl⟩
    · rw [filter_true] at hp1
      have e := paired_int hp1
      subst e
      refine ⟨D, folk.map fun r => lastOf r L, rfl, SqL.of hw, by rw [List.length_map]; omega, fun p c np hc => ?_⟩
      rw [List.length_map] at hc
      refine ⟨p, _, c, rfl, upd_same, by omega, fun ns p2 pw mem hl np2 => ?_⟩
      have e : ns = lasts folk L := sortD_of strictI pw fun x => (mem x).trans (by rw [decide_eq_true_iff])
      subst e
      exact q _ p2 (s1.trans ((same_upd np).trans (same_upd np2))) ((s1.trans (same_upd np)).free np2) upd_same
end
end K74
namespace K74
open PySem PySem.Spec PyProof.Rows L2
abbrev Row := Int × List Int
def isRow : Rel Row := fun H v r => ∃ p b, v = .ref p ∧ H p = some (.tup [.int r.1, .ref b]) ∧ LI H b r.2
theorem mono_row : Mono isRow := fun _ _ _ _ s ⟨p, b, e, h, g⟩ => ⟨p, b, e, s _ _ h, s _ _ g⟩
def encR (r : Row) : PyData := .tuple [.int r.1, .list (r.2.map .int)]
theorem enc_row {K : PySem.W.Frag} : Enc K isRow encR 4 := by
  refine ⟨fun H v x ⟨p, b, e, h, g⟩ => ?_, fun x => ?_, fun x => ?_⟩
  · rw [e]
    exact .tup (SqT.of h) (.cons (.int _) (.cons ((enc_lst enc_int).dp _ _ _ (lst_int g)) .nil))
  · have := lay_all (e := PyData.int) (fun _ => rfl) x.2
    simp [encR, PyData.canLay0, PyData.canLayAll0, this]
  · have := dep_all (e := PyData.int) (n := 0) (fun _ => by simp [PyData.depth]) x.2
    simp only [encR, PyData.depth, PyData.depthAll]
    omega
/-- the rows so far; f more to come -/
theorem takeGo_more {folk : List (List Int)} {L : List Int} {f : Nat} (h : 1 < L.length) (hf : L.length ≤ f + 1) : ∃ g, f = g + 1 ∧ takeGo folk f L = if hangs folk L ((lasts folk L).headD 0) = [] then [((lasts folk L).headD 0, [])] else ((lasts folk L).headD 0, hangs folk L ((lasts folk L).headD 0)) :: takeGo folk g (without L ((lasts folk L).headD 0)) := by
  obtain ⟨g, rfl⟩ : ∃ g, f = g + 1 := ⟨f - 1, by omega⟩
  refine ⟨g, rfl, ?_⟩
  rw [takeGo, if_neg (by omega)]
theorem takeGo_end {folk : List (List Int)} {L : List Int} {f : Nat} (h : L.length ≤ 1) : takeGo folk f L = [] := by
  cases f with
  | zero => rfl
  | succ g => rw [takeGo, if_pos h]
theorem lasts_cons {folk : List (List Int)} {L : List Int} (o : Ok folk L) (h0 : L ≠ []) : ∃ t, lasts folk L = (lasts folk L).headD 0 :: t := by
  obtain ⟨r, hr, q, e⟩ := head_last o h0
  cases z : lasts folk L with
  | nil =>
    have : lastOf r L ∈ lasts folk L := mem_sortD.mpr (List.mem_map.mpr ⟨r, hr, rfl⟩)
    rw [z] at this
    cases this
  | cons x t => exact ⟨t, rfl⟩
/-- between two turns of taken_out -/
def takenW (H : Hp) (a : Addr) (folk : List (List Int)) (ns : List Int) (m : Nat) (σ : L2.St) (H' : Hp) : Prop :=
  ∃ (pl pg : Addr) (L : List Int) (k : Nat) (rows : List Row) (zs : List V) (o3 o4 : Option V), σ = [some (.ref a), some (.ref pl), some (.ref pg), o3, o4, none] ∧ Same H H' ∧ H pg = none ∧ pl ≠ pg ∧ LI H' pl L ∧ Ok folk L ∧ 1 ≤ L.length ∧ L.length ≤ 10 ∧ L.length ≤ k + 1 ∧ m = L.length ∧
      H' pg = some (.lst zs) ∧ zs.length + L.length ≤ 20 ∧ Paired (fun y r => ∀ H2, SameX pg H' H2 → isRow H2 y r) zs rows ∧ rows ++ takeGo folk k L = takeGo folk ns.length ns
section
variable {P : Program} {w : World} {K : PySem.W.Frag} {mg : Str → Option Value} {base : Heap}
def spTaken : Sp := fun vs H Q _ => ∃ (v : V) (folk : List (List Int)) (names : List Int), vs = [v] ∧ isFolk H v folk ∧ Fk folk names ∧ ∀ H' v', Same H H' → isLst isRow H' v' (takeGo folk names.length names) → Q v' H'
theorem kn_taken (S : Std K mg "taken_out" s_taken_out) (T : Txt mg) (k1 : Kn P w K mg base 1 "lasts" p_lasts spLasts) (k2 : Kn P w K mg base 2 "hangs_at" p_hangs_at spHangs) : Kn P w K mg base 3 "taken_out" p_taken_out spTaken := by
  obtain ⟨f1, fd1, G1, b1, g1, e1⟩ := k1
  obtain ⟨f2, fd2, G2, b2, g2, e2⟩ := k2
  refine kn_mk S c_taken_out (fun vs H Q E h => ?_) (fun _ _ _ _ _ _ us hl => match us, hl with | [_], _ => rfl) (fun f cdv A outer s H vs Q E hr h => ?_)
  · obtain ⟨v, folk, names, rfl, _⟩ := h
    rfl
  · obtain ⟨v, folk, names, rfl, ⟨a, ws, rfl, hF, hp⟩, F, q⟩ := h
    have hr1 := hr.mono (by decide : 1 ≤ 2)
    refine ⟨_, pss_cons (ps_set (i := 1) c_taken_out.nd rfl (Or.inl rfl) (pe_callB cr_sorted (by rfl) T.sorted boot_sorted (pa_cons (pe_ix ix_list (pv 0) pe_int (fun _ _ => rfl)) pa_nil)))
      (pss_cons (ps_set (i := 2) c_taken_out.nd rfl (Or.inl rfl) (pe_lst pa_nil))
      (pss_cons (ps_while PassesOwn.never (pt_cmpR op_gt (pe_callB call_len_seq (by rfl) T.len PySem.boot_len (pa_cons (pv 1) pa_nil)) pe_int (nomark _))
        (pss_cons (ps_set (i := 3) c_taken_out.nd rfl (Or.inr rfl) (pe_ix ix_list (pe_call G1 hr1 (by rfl) g1 e1 b1 .nil pass0 (pa_cons (pv 0) (pa_cons (pv 1) pa_nil))) pe_int (fun _ _ => rfl)))
        (pss_cons (ps_set (i := 4) c_taken_out.nd rfl (Or.inl rfl) (pe_call G2 hr (by rfl) g2 e2 b2 .nil pass0 (pa_cons (pv 0) (pa_cons (pv 1) (pa_cons (pv 3) pa_nil)))))
        (pss_cons (ps_expr (pe_bm PySem.F.plainAttrs_list PySem.F.slot_list_append PySem.F.type_list_append mt_append (pv 2) (pa_cons (pe_tup (pa_cons (pv 3) (pa_cons (pv 4) pa_nil))) pa_nil)))
        (pss_cons (ps_if (pt_cmpR (op_eqD hr.units) (pv 4) (pe_lst pa_nil) (nomark _)) (pss_one (ps_ret (pv 2))) pss_nil)
        (pss_one (ps_setLc (i := 1) (own := [("one", 5)]) (g := gName 5) (tt := tB (tOp rNe (tVar 5) (tVar 3))) rfl c_taken_out.nd rfl rfl (sw_true rfl rfl rfl (by decide +kernel)) (pi_list (pv 1)) (blkOk_by (N := n_taken_out) (sc := defScope s_taken_out) (by decide +kernel))
          (fun _ _ _ _ _ => pg_name (i := 5) c_taken_out.nd rfl (Or.inl rfl)) (fun _ _ _ _ _ => pts_one (pt_cmpR (r := rNe) op_ne (pv 5) (pv 3) (nomark _))) (fun _ _ _ _ _ => pv 5)))))))
        )
      (pss_one (ps_ret (pv 2))))), ?_⟩
    -- left = sorted(folk[0])
    have hf1 : 1 ≤ folk.length := List.length_pos_iff.mpr F.rk.ne
    obtain ⟨r0, v0, e0, hv0, hr0⟩ : ∃ r0 v0, folk[0]? = some r0 ∧ ws[0]? = some v0 ∧ isLst isInt H v0 r0 := by
      have h0 : folk[0]? = some folk[0] := List.getElem?_eq_getElem (by omega)
      obtain ⟨v0, x, y⟩ := paired_get' hp h0
      exact ⟨_, v0, h0, x, y⟩
    obtain ⟨b0, rfl, hb0⟩ := isLst_int hr0
    have hm0 := List.mem_of_getElem? e0
    have hrl0 := F.rk.len hm0
    have hn10 := F.few
    refine ⟨_, rfl, a, ws, 0, _, rfl, rfl, SqL.of hF, atI_nat (j := 0) hv0, b0, r0, rfl, SqL.of hb0, by omega, fun ns p0 perm ris n0 => ?_⟩
    have e1 := sorted_ints perm ris (F.rk.rk r0 hm0).1
    rw [F.rk.sort hm0] at e1
    subst e1
    have s0 : Same H (upd H p0 (.lst (ns.map V.int))) := same_upd n0
    -- found = []
    refine ⟨Nat.zero_le _, fun pf nf => ?_⟩
    have s1 : Same (upd H p0 (.lst (ns.map V.int))) (upd (upd H p0 (.lst (ns.map V.int))) pf (.lst [])) := same_upd nf
    refine ⟨takenW H a folk ns,
      ⟨ns.length, p0, pf, ns, ns.length, [], [], none, none, rfl, s0.trans s1, s0.free nf, (ne_of_none upd_same nf), s1 _ _ upd_same, F.rk.ok, F.rk.pos, hn10, Nat.le_succ _, rfl, upd_same, by rw [List.length_nil]; omega, .nil, rfl⟩, fun m σ H1 hW => ?_⟩
    obtain ⟨pl, pg, L, k, rows, zs, o3, o4, rfl, sH, hpg, hlg, hL, hO, hL1, hL10, hk, hm, hg, hz, hR, hT⟩ := hW
    refine ⟨_, rfl, pl, _, rfl, .inl (SqL.of hL), _, _, rfl, rfl, _, rfl, ite2 (fun hlt => ?_) (fun hge => ?_)⟩
    · have hlt := of_decide_eq_true hlt
      rw [ints_len] at hlt
      have h0 : L ≠ [] := fun e => by rw [e, List.length_nil] at hL1; omega
      refine ⟨fun σ' H' => ∃ m', m' < m ∧ takenW H a folk ns m' σ' H', fun _ _ h => h, ?_⟩
      -- name = lasts(folk, left)[0]
      have hF1 : isFolk H1 (.ref a) folk := mono_folk _ _ _ _ sH ⟨a, ws, rfl, hF, hp⟩
      refine ⟨_, rfl, _, rfl, .ref a, pl, folk, L, rfl, hF1, hL, F.many, fun r hr => ⟨by rw [F.rk.len hr]; omega, fun z => ?_⟩, fun H2 p2 s2 n2 h2 => ?_⟩
      · have := hO.rest_len hr
        rw [z, List.length_nil] at this
        omega
      obtain ⟨t, et⟩ := lasts_cons hO h0
      have hnL := head_in hO h0
      obtain ⟨g, rfl, hgo⟩ := takeGo_more (folk := folk) (by omega : 1 < L.length) hk
      refine ⟨p2, _, 0, .int ((lasts folk L).headD 0), rfl, rfl, SqL.of h2, atI_nat (j := 0) (by rw [et]; rfl), ?_⟩
      generalize (lasts folk L).headD 0 = n at *
      -- some = hangs_at(folk, left, name)
      refine ⟨_, rfl, _, rfl, _, rfl, .ref a, pl, folk, L, n, rfl, mono_folk _ _ _ _ s2 hF1, s2 _ _ hL, by omega, fun r hr => ⟨by rw [F.rk.len hr]; omega, (hO.rest_mem hr).mpr hnL⟩, fun H3 p3 s3 n3 h3 => ?_⟩
      have n3g : p3 ≠ pg := (ne_of_none (s2 _ _ hg) n3).symm
      -- found.append((name, some))
      refine ⟨_, rfl, .inl ⟨rfl, _, SqL.of (s3 _ _ (s2 _ _ hg))⟩, _, rfl, _, rfl, (by show 2 ≤ sizeLine; decide), fun tp ntp => ?_⟩
      have s4 : Same H3 (upd H3 tp (.tup [.int n, .ref p3])) := same_upd ntp
      have s14 := s2.trans (s3.trans s4)
      have hg4 := s14 _ _ hg
      have ntg : tp ≠ pg := (ne_of_none (s3 _ _ (s2 _ _ hg)) ntp).symm
      have htp : upd H3 tp (.tup [.int n, .ref p3]) tp = some (.tup [.int n, .ref p3]) := upd_same
      have h34 := s4 _ _ h3
      generalize upd H3 tp (.tup [.int n, .ref p3]) = H4 at *
      refine ⟨pg, _, _, rfl, rfl, hg4, Nat.lt_of_le_of_lt (show zs.length ≤ 1000 by omega) (by decide), ?_⟩
      have s5 : Same H (upd H4 pg (.lst (zs ++ [.ref tp]))) := same_put (sH.trans s14) hpg
      have x5 : SameX pg H1 (upd H4 pg (.lst (zs ++ [.ref tp]))) := (same_toX s14).trans sameX_upd
      have y5 : SameX pg H4 (upd H4 pg (.lst (zs ++ [.ref tp]))) := sameX_upd
      have hg5 : upd H4 pg (.lst (zs ++ [.ref tp])) pg = some (.lst (zs ++ [.ref tp])) := upd_same
      have h35 := y5 _ _ n3g h34
      have ht5 := y5 _ _ ntg htp
      have hL5 := x5 _ _ hlg hL
      generalize upd H4 pg (.lst (zs ++ [.ref tp])) = H5 at *
      have row5 : Paired (fun y r => ∀ H2, SameX pg H5 H2 → isRow H2 y r) (zs ++ [.ref tp]) (rows ++ [(n, hangs folk L n)]) :=
        paired_app (paired_mono (fun y r z H2 x => z H2 (x5.trans x)) hR) (.cons (fun H2 x => ⟨tp, p3, rfl, x _ _ ntg ht5, x _ _ n3g h35⟩) .nil)
      -- if some == []
      refine ⟨_, rfl, Nat.zero_le _, fun pe ne => ?_⟩
      have s6 : Same H5 (upd H5 pe (.lst [])) := same_upd ne
      refine ⟨_, .list [], (enc_lst enc_int).dp _ _ _ (lst_int (s6 _ _ h35)), (enc_lst enc_int).dp _ _ _ (lst_int (ns := []) upd_same), (enc_lst (K := K) enc_int).shaped (by decide) _, by decide, _, rfl, ?_⟩
      rw [eqv_nil]
      refine ite2 (fun he => ?_) (fun he => ?_)
      · have he : hangs folk L n = [] := by
          rw [List.isEmpty_iff, List.map_eq_nil_iff] at he
          exact he
        rw [if_pos he] at hgo
        rw [hgo] at hT
        refine ⟨_, rfl, ?_⟩
        refine q _ _ (s5.trans s6) ⟨pg, zs ++ [.ref tp], rfl, s6 _ _ hg5, ?_⟩
        rw [← hT, ← he]
        exact paired_mono (fun y r z => z _ (same_toX s6)) row5
      · have he : ¬ hangs folk L n = [] := fun z => he (by rw [z]; rfl)
        rw [if_neg he] at hgo
        rw [hgo] at hT
        have hL6 := s6 _ _ hL5
        refine ⟨_, rfl, pl, rfl, ⟨_, SqL.of hL6⟩, fun D hD => lc_gen (R := isInt) isInt mono_int (fun x => decide (x ≠ n)) (fun x => x) hL6 (int_paired L) hD (by omega) (fun x hx v H4 N M s4 _ rx yes no => ?_) (fun H7 us s7 hw hp4 => ?_)⟩
        · subst rx
          refine ⟨rfl, _, rfl, _, rfl, rfl, _, rfl, ?_⟩
          rw [dV]
          refine ite2 (fun e => ?_) (fun e => ?_)
          · exact ⟨_, rfl, yes (by simpa using e) _ _ (Same.refl _) fun _ _ => rfl⟩
          · exact no (by simpa using e) _ (Same.refl _)
        · have hw : LI H7 D (without L n) := li_of hw hp4
          have wl := without_len hO.nd hnL
          have s67 := s6.trans s7
          refine ⟨(without L n).length, by omega, D, pg, without L n, g, rows ++ [(n, hangs folk L n)], zs ++ [.ref tp], _, _, rfl, s5.trans s67, hpg, ?_, hw, hO.without n, by omega, by omega, by omega, rfl, s67 _ _ hg5, ?_, paired_mono (fun y r z H2 x => z H2 ((same_toX s67).trans x)) row5, ?_⟩
          · exact (ne_of_none (s6 _ _ hg5) hD).symm
          · rw [List.length_append, List.length_singleton]
            omega
          · rw [List.append_assoc]
            exact hT
    · have hge : ¬ ((1 : Int) < (L.length : Int)) := fun z => hge (decide_eq_true (by rw [ints_len]; exact z))
      rw [takeGo_end (by omega), List.append_nil] at hT
      subst hT
      exact ⟨_, rfl, q _ _ sH ⟨pg, zs, rfl, hg, paired_mono (fun _ _ r => r _ (SameX.refl _ _)) hR⟩⟩
end
end K74
namespace K74
open PySem PySem.Spec PyProof.Rows L2
theorem takeGo_full : ∀ (f : Nat) {folk : List (List Int)} {L : List Int}, isGone (takeGo folk f L) = false → ∀ p ∈ takeGo folk f L, p.2 ≠ []
  | 0, _, _, _, p, hp => nomatch hp
  | f + 1, folk, L, hg, p, hp => by
    unfold takeGo at hg hp
    split at hp
    · cases hp
    · rename_i hl
      rw [if_neg hl] at hg
      split at hp
      · rename_i he
        rw [if_pos he] at hg
        exact absurd (show true = false from hg) (by decide)
      · rename_i he
        rw [if_neg he] at hg
        rcases List.mem_cons.mp hp with e | hp
        · rw [e]
          exact he
        · refine takeGo_full f ?_ p hp
          unfold isGone at hg ⊢
          rw [List.getLast?_cons] at hg
          cases e : (takeGo folk f (without L ((lasts folk L).headD 0))).getLast? with
          | none => rfl
          | some p =>
            rw [e] at hg
            exact hg
theorem paired_last {α β : Type} {R : α → β → Prop} : ∀ {xs : List α} {ys : List β}, Paired R xs ys → ys ≠ [] → ∃ xs0 x y, xs = xs0 ++ [x] ∧ ys.getLast? = some y ∧ R x y
  | _, _, .nil, h => absurd rfl h
  | x :: _, y :: _, .cons r .nil, _ => ⟨[], x, y, rfl, rfl, r⟩
  | x :: _, y :: _, .cons r (.cons r' t), _ => by
    obtain ⟨xs0, z, u, e1, e2, e3⟩ := paired_last (.cons r' t) (by simp)
    refine ⟨x :: xs0, z, u, by rw [e1]; rfl, ?_, e3⟩
    rw [List.getLast?_cons_cons]
    exact e2
/-- the paper that stands at a, its list at b -/
def PaperAt (H : Hp) (a b : Addr) : Paper → Prop
  | .tree E => H a = some (.tup [.str "tree", .ref b]) ∧ isTies H (.ref b) E
  | .gone ns => H a = some (.tup [.str "gone", .ref b]) ∧ LI H b ns
section
variable {P : Program} {w : World} {K : PySem.W.Frag} {mg : Str → Option Value} {base : Heap}
def spTieOf : Sp := fun vs H Q _ => ∃ (a b : Int), vs = [.int a, .int b] ∧ ∀ p, H p = none → Q (.ref p) (upd H p (.tup [.int (tie a b).1, .int (tie a b).2]))
theorem kn_tieof (S : Std K mg "tie_of" s_tie_of) (T : Txt mg) : Kn P w K mg base 1 "tie_of" p_tie_of spTieOf := by
  refine kn_mk S c_tie_of (fun vs H Q E h => ?_) (fun _ _ _ _ _ _ us hl => match us, hl with | [_, _], _ => rfl) (fun f cdv A outer s H vs Q E hr h => ?_)
  · obtain ⟨a, b, rfl, _⟩ := h
    rfl
  · obtain ⟨a, b, rfl, q⟩ := h
    refine ⟨_, pss_one (ps_ret (pe_tup (pa_cons (pe_callB (call_min2 rfl) (by rfl) T.min (by decide +kernel) (pa_cons (pv 0) (pa_cons (pv 1) pa_nil)))
      (pa_cons (pe_callB (call_max2 rfl) (by rfl) T.max (by decide +kernel) (pa_cons (pv 0) (pa_cons (pv 1) pa_nil))) pa_nil)))), ?_⟩
    refine ⟨_, rfl, _, rfl, a, b, rfl, _, rfl, _, rfl, a, b, rfl, (by show 2 ≤ sizeLine; decide), fun p np => ?_⟩
    have e1 : (if b < a then b else a) = (tie a b).1 := by
      show _ = min a b
      split <;> omega
    have e2 : (if b > a then b else a) = (tie a b).2 := by
      show _ = max a b
      split <;> omega
    rw [e1, e2]
    exact q p np
def spTold : Sp := fun vs H Q _ => ∃ (v : V) (folk : List (List Int)) (names : List Int), vs = [v] ∧ isFolk H v folk ∧ Fk folk names ∧ ∀ H' a b, Same H H' → H a = none → H b = none → PaperAt H' a b (told folk) → Q (.ref a) H'
theorem kn_told (S : Std K mg "tree_told" s_tree_told) (T : Txt mg) (k1 : Kn P w K mg base 5 "must_be_folk" p_must_be_folk spMustF) (k2 : Kn P w K mg base 3 "taken_out" p_taken_out spTaken) (k3 : Kn P w K mg base 1 "tie_of" p_tie_of spTieOf) : Kn P w K mg base 6 "tree_told" p_tree_told spTold := by
  obtain ⟨f1, fd1, G1, b1, g1, e1⟩ := k1
  obtain ⟨f2, fd2, G2, b2, g2, e2⟩ := k2
  obtain ⟨f3, fd3, G3, b3, g3, e3⟩ := k3
  refine kn_mk S c_tree_told (fun vs H Q E h => ?_) (fun _ _ _ _ _ _ us hl => match us, hl with | [_], _ => rfl) (fun f cdv A outer s H vs Q E hr h => ?_)
  · obtain ⟨v, folk, names, rfl, _⟩ := h
    rfl
  · obtain ⟨v, folk, names, rfl, hF, F, q⟩ := h
    obtain ⟨B, hB⟩ := bound names
    have hr1 := hr.mono (by decide : 1 ≤ 5)
    refine ⟨_, pss_cons (ps_expr (pe_call G1 hr (by rfl) g1 e1 b1 .nil pass0 (pa_cons (pv 0) pa_nil)))
      (pss_cons (ps_set (i := 1) c_tree_told.nd rfl (Or.inl rfl) (pe_call G2 (hr.mono (by decide)) (by rfl) g2 e2 b2 .nil pass0 (pa_cons (pv 0) pa_nil)))
      (pss_cons (ps_if (PW.pt (pw_and (pt_cmpR (op_neD hr.units) (pv 1) (pe_lst pa_nil) (nomark _)) (pw_and1 (pt_cmpR (op_eqD hr.units) (pe_ix ix_tup (pe_ix ix_list (pv 1) (pe_un un_neg pe_int) (fun _ _ => rfl)) pe_int (fun _ _ => rfl)) (pe_lst pa_nil) (nomark _)))))
        (pss_one (ps_ret (pe_tup (pa_cons pe_str (pa_cons
          (pe_lc (own := [("name", 2), ("some", 3)]) (g := gTup K 2 (gCons (gName 2) (gCons (gName 3) gNil))) (tt := tYes) rfl c_tree_told.nd (pi_list (pv 1)) (blkOk_by (N := n_tree_told) (sc := defScope s_tree_told) (by decide +kernel))
            (fun _ _ _ _ _ => pg_tup rfl (pgs_cons (pg_name (i := 2) c_tree_told.nd rfl (Or.inl rfl)) (pgs_cons (pg_name (i := 3) c_tree_told.nd rfl (Or.inl rfl)) pgs_nil))) (fun _ _ _ _ _ => pts_nil) (fun _ _ _ _ _ => pv 2)) pa_nil))))) pss_nil)
      (pss_one (ps_ret (pe_tup (pa_cons pe_str (pa_cons (pe_callB (cr_sortT (d := 2) (B := B) (by decide)) (by rfl) T.sorted boot_sorted (pa_cons
          (pe_lc (own := [("name", 2), ("some", 3)]) (g := gTup K 2 (gCons (gName 2) (gCons (gName 3) gNil))) (tt := tYes) rfl c_tree_told.nd (pi_list (pv 1)) (blkOk_by (N := n_tree_told) (sc := defScope s_tree_told) (by decide +kernel))
            (fun _ _ _ _ _ => pg_tup rfl (pgs_cons (pg_name (i := 2) c_tree_told.nd rfl (Or.inl rfl)) (pgs_cons (pg_name (i := 3) c_tree_told.nd rfl (Or.inl rfl)) pgs_nil))) (fun _ _ _ _ _ => pts_nil)
            (fun _ _ _ _ _ => pe_call G3 hr1 (by rfl) g3 e3 b3 .nil pass0 (pa_cons (pv 2) (pa_cons (pe_ix (r := rIxL K) ix_list (pv 3) pe_int (fun _ _ => rfl)) pa_nil)))) pa_nil)) pa_nil))))))), ?_⟩
    have hn10 := F.few
    refine ⟨_, rfl, v, folk, names, rfl, hF, F, fun H1 s1 => ?_⟩
    refine ⟨_, rfl, v, folk, names, rfl, mono_folk _ _ _ _ s1 hF, F, fun H2 v2 s2 hR => ?_⟩
    have hTold := F.rk.told
    have rowsLen : ∀ (f : Nat) (L : List Int), (takeGo folk f L).length ≤ f := fun f => by
      induction f with
      | zero => exact fun L => Nat.zero_le _
      | succ f ih =>
        intro L
        unfold takeGo
        split
        · exact Nat.zero_le _
        · split
          · exact Nat.succ_le_succ (Nat.zero_le _)
          · exact Nat.succ_le_succ (ih _)
    have hlen := rowsLen names.length names
    have hfull := @takeGo_full names.length folk names
    have hright := takeGo_right names.length F.rk.ok F.rk.pos (Nat.le_succ _)
    generalize takeGo folk names.length names = R at *
    have s12 := s1.trans s2
    -- rows != []
    refine ⟨_, rfl, Nat.zero_le _, fun pe ne => ?_⟩
    have s3 : Same H2 (upd H2 pe (.lst [])) := same_upd ne
    have hR3 := mono_lst mono_row _ _ _ _ s3 hR
    refine ⟨_, .list [], (enc_lst enc_row).dp _ _ _ hR3, (enc_lst enc_int).dp _ _ _ (lst_int (ns := []) upd_same), (enc_lst (K := K) enc_row).shaped (by decide) _, by decide, _, rfl, ?_⟩
    rw [eqv_nil]
    have s13 := s12.trans s3
    generalize upd H2 pe (.lst []) = H3 at *
    obtain ⟨l, zs, rfl, hl, hp⟩ := hR3
    have hzl := paired_len hp
    have hl3 : Same H H3 := s13
    cases hg : isGone R with
    | true =>
      rw [hg, if_pos rfl] at hTold
      have hne : R ≠ [] := fun z => by
        rw [z] at hg
        exact absurd (show false = true from hg) (by decide)
      obtain ⟨zs0, y, r, ez, er, p1, c1, rfl, hp1, hc1⟩ := paired_last hp hne
      have hr2 : r.2 = [] := by
        unfold isGone at hg
        rw [er] at hg
        exact List.isEmpty_iff.mp hg
      rw [show (R.map encR).isEmpty = false by cases R with | nil => exact absurd rfl hne | cons _ _ => rfl]
      refine iteT ⟨_, rfl, 1, rfl, l, zs, -1, _, rfl, rfl, SqL.of hl, by rw [ez]; exact atI_last _ _, p1, _, 1, _, rfl, rfl, SqT.of hp1, atI_nat (j := 1) rfl, Nat.zero_le _, fun pe ne => ?_⟩
      have s4 : Same H3 (upd H3 pe (.lst [])) := same_upd ne
      refine ⟨_, .list [], (enc_lst enc_int).dp _ _ _ (lst_int (s4 _ _ hc1)), (enc_lst enc_int).dp _ _ _ (lst_int (ns := []) upd_same), (enc_lst (K := K) enc_int).shaped (by decide) _, by decide, _, rfl, ?_⟩
      rw [eqv_nil, hr2]
      have s14 := s13.trans s4
      have hl4 := s4 _ _ hl
      have hp4 := paired_mono (fun _ _ r => mono_row _ _ _ _ s4 r) hp
      generalize upd H3 pe (.lst []) = H4 at *
      refine iteT ⟨_, rfl, l, rfl, ⟨_, SqL.of hl4⟩, fun D hD => lc_gen (R := isRow) isInt mono_row (fun _ => true) (fun r => r.1) hl4 hp4 hD (by omega) (fun r hrr v H5 N M s5 _ rx yes no => ?_) (fun H5 us s5 hw hp5 => ?_)⟩
      · obtain ⟨p, b, rfl, h1, h2⟩ := rx
        exact ⟨p, _, rfl, SqT.of h1, rfl, _, _, rfl, _, _, rfl, rfl, rfl, lcYes ⟨_, rfl, yes rfl _ _ (Same.refl _) fun _ _ => rfl⟩⟩
      · rw [filter_true] at hp5
        have e := paired_int hp5
        subst e
        refine ⟨(by show 2 ≤ sizeLine; decide), fun pp np => ?_⟩
        have s6 : Same H5 (upd H5 pp (.tup [.str "gone", .ref D])) := same_upd np
        refine q _ pp D ((s14.trans s5).trans s6) ((s14.trans s5).free np) (s14.free hD) ?_
        rw [hTold]
        exact ⟨upd_same, s6 _ _ hw⟩
    | false =>
      rw [hg, if_neg (by decide)] at hTold
      have hfull := hfull hg
      obtain ⟨t1, t2, t3, t4⟩ := hright hg
      have hpre : ∃ H4, Same H H4 ∧ H4 l = some (.lst zs) ∧ Paired (isRow H4) zs R ∧ H4 = H3 := ⟨H3, s13, hl, hp, rfl⟩
      refine ite2 (fun h1 => ?_) (fun h1 => ?_)
      have hne : R ≠ [] := fun z => by
        rw [z] at h1
        exact absurd h1 (by decide)
      obtain ⟨zs0, y, r, ez, er, p1, c1, rfl, hp1, hc1⟩ := paired_last hp hne
      have hr2 : ¬ r.2 = [] := hfull r (List.mem_of_getLast? er)
      refine ⟨_, rfl, 1, rfl, l, zs, -1, _, rfl, rfl, SqL.of hl, by rw [ez]; exact atI_last _ _, p1, _, 1, _, rfl, rfl, SqT.of hp1, atI_nat (j := 1) rfl, Nat.zero_le _, fun pe ne => ?_⟩
      have s4 : Same H3 (upd H3 pe (.lst [])) := same_upd ne
      refine ⟨_, .list [], (enc_lst enc_int).dp _ _ _ (lst_int (s4 _ _ hc1)), (enc_lst enc_int).dp _ _ _ (lst_int (ns := []) upd_same), (enc_lst (K := K) enc_int).shaped (by decide) _, by decide, _, rfl, ?_⟩
      rw [eqv_nil]
      refine iteN (by cases z : r.2 with | nil => exact absurd z hr2 | cons _ _ => rfl) ?_
      have s14 := s13.trans s4
      have hl4 := s4 _ _ hl
      have hp4 := paired_mono (fun _ _ r => mono_row _ _ _ _ s4 r) hp
      generalize upd H3 pe (.lst []) = H4 at *
      rotate_left
      obtain ⟨H4, s14, hl4, hp4, e⟩ := hpre
      rw [← e]
      all_goals
        refine ⟨_, rfl, l, rfl, ⟨_, SqL.of hl4⟩, fun D hD => lc_gen (R := isRow) isTie mono_row (fun _ => true) (fun r => tie r.1 (r.2.headD 0)) hl4 hp4 hD (by omega) (fun r hrr v H5 N M s5 hacc rx yes no => ?_) (fun H5 us s5 hw hp5 => ?_)⟩
        · obtain ⟨p, b, rfl, h1, h2⟩ := rx
          obtain ⟨acc, hacc⟩ := hacc
          obtain ⟨x0, xt, ex⟩ : ∃ x0 xt, r.2 = x0 :: xt := by
            cases z : r.2 with
            | nil => exact absurd z (hfull r hrr)
            | cons x0 xt => exact ⟨x0, xt, rfl⟩
          refine ⟨p, _, rfl, SqT.of h1, rfl, _, _, rfl, _, _, rfl, rfl, rfl, lcYes ⟨_, rfl, _, rfl, b, _, 0, .int x0, rfl, rfl, SqL.of h2, atI_nat (j := 0) (by rw [ex]; rfl), r.1, x0, rfl, fun pt nt => ?_⟩⟩
          refine yes rfl _ _ (same_upd nt) fun H6 x6 => ⟨pt, rfl, x6 _ _ (ne_of_none hacc nt).symm ?_⟩
          rw [upd_same, ex]
          rfl
        · rw [filter_true] at hp5
          have hBd : ∀ t ∈ tiesOf R, TS.Bd B (tl t) := fun t ht m hm => by
            obtain ⟨_, u1, u2⟩ := t3 t ht
            rcases List.mem_cons.mp hm with e | hm
            · rw [e]
              exact ⟨F.pos _ u1, hB _ u1⟩
            · rw [List.mem_singleton.mp hm]
              exact ⟨F.pos _ u2, hB _ u2⟩
          have hp5' : Paired (isTie H5) us (tiesOf R) := hp5
          have hul := paired_len hp5'
          have htl : (tiesOf R).length = R.length := List.length_map _
          refine ⟨D, us, rfl, SqL.of hw, by omega, ties_tupI hp5' hBd, fun ys ps perm pw nps => ?_⟩
          have s6 : Same H5 (upd H5 ps (.lst ys)) := same_upd nps
          have hs := sorted_ties hp5' t2 hBd perm pw s6 upd_same
          have nb := (s14.trans s5).free nps
          generalize upd H5 ps (.lst ys) = H6 at *
          refine ⟨(by show 2 ≤ sizeLine; decide), fun pp np => ?_⟩
          have s7 : Same H6 (upd H6 pp (.tup [.str "tree", .ref ps])) := same_upd np
          refine q _ pp ps (((s14.trans s5).trans s6).trans s7) (((s14.trans s5).trans s6).free np) nb ?_
          rw [hTold]
          exact ⟨upd_same, mono_ties _ _ _ _ s7 hs⟩
end
end K74
namespace K74
open PySem PySem.Spec PyProof.Rows L2
/-! ### not in a range -/
def rNotRng : R2 := fun x y H Q => ∃ i a lo hi, x = V.int i ∧ y = V.ref a ∧ H a = some (.rng lo hi) ∧ Q (.bl (!decide (lo ≤ i ∧ i < hi))) H
theorem op_notin_rng {X : Cx} : OpR X (compareOp .NotIn) rNotRng := by
  intro pins s σ H x y v u Q I rx ry ⟨i, a, lo, hi, ex, ey, ha, q⟩
  subst ex ey
  obtain ⟨k, rfl⟩ := rx
  cases ry
  have ⟨t1, t2, t3, ho⟩ := I.hok a _ ha
  have ask := q_contains a lo hi i t1 t2 t3 k
  show wpAny _ _ (do return Value.bool (!(← contains (Value.ref a) (Value.int i k)))) _ _ s
  refine wpAny_bind (wpAny_contains_slot (T := "range") ⟨_, ho, rfl⟩ F.slot_range_contains ?_)
  refine call_meets F.slot_range_contains ⟨_, ho, rfl⟩ F.entry_range_contains (F.args_range_contains_2 _ _) ask ⟨ho, wpAny_truthy_bool (wpAny_pure ⟨.bl _, H, I, rfl, ?_⟩)⟩
  rw [place1]
  exact q
/-! ### comprehensions over a range -/
theorem lc_genR {β : Type} (S : Rel β) {D : Addr} {n : Nat} (p : Nat → Bool) (f : Nat → β) {g : TG} {tt : TT} {te : TE} {ow : List Nat} {σ : L2.St} {H1 : Hp} {Qd : Hp → Prop} (hD : H1 D = none) (hx : n ≤ 1000000)
    (turn : ∀ i, i < n → ∀ (H : Hp) (N : V → Hp → Prop) (M : Hp → Prop), Same H1 H → (p i = true → ∀ y H', Same H H' → (∀ H2, SameX D H' H2 → S H2 y (f i)) → N y H') → (p i = false → ∀ H', Same H H' → M H') →
      g (.int (0 + (i : Int))) (wipe σ ow) H fun σ2 H2 => wipe σ2 ow = wipe σ ow ∧ tt σ2 H2 fun b H3 => if b = true then te σ2 H3 N else M H3)
    (hd : ∀ H' ws, Same H1 H' → H' D = some (.lst ws) → Paired (S H') ws (((List.range n).filter p).map f) → Qd H') :
    ∃ W : Nat → Nat → Hp → Prop, (∃ m, W 0 m (upd H1 D (.lst []))) ∧ ∀ i m H, W i m H →
      ((Itr 0 n).stop i H ∧ Qd H) ∨ ((Itr 0 n).go i H ∧ ∃ Nx : Hp → Prop, (∀ H', Nx H' → ∃ m', m' < m ∧ W (i + 1) m' H') ∧ ∀ x H', (Itr 0 n).yld i H x H' → g x (wipe σ ow) H' fun σ2 H2 => wipe σ2 ow = wipe σ ow ∧ tt σ2 H2 fun b H3 =>
        if b = true then te σ2 H3 fun y H4 => ∃ acc, H4 D = some (.lst acc) ∧ acc.length < sizeLine ∧ Nx (upd H4 D (.lst (acc ++ [y]))) else Nx H3) := by
  refine lc_range (lo := 0) (n := n) (fun i H => Same H1 H ∧ ∃ ws, H D = some (.lst ws) ∧ ws.length ≤ i ∧ Paired (fun y b => ∀ H2, SameX D H H2 → S H2 y b) ws (((List.range i).filter p).map f)) ⟨same_upd hD, [], upd_same, Nat.le_refl _, .nil⟩ (fun i H hi hP => ?_) (fun H hP => ?_)
  · obtain ⟨s, ws, hw, hwl, hS⟩ := hP
    refine turn i hi H _ _ s (fun hpx y H' s' hy => ?_) (fun hpx H' s' => ?_)
    · refine ⟨ws, s' _ _ hw, Nat.lt_of_le_of_lt hwl (Nat.lt_trans hi (Nat.lt_of_le_of_lt hx (by decide))), same_put (s.trans s') hD, ws ++ [y], upd_same, by rw [List.length_append, List.length_singleton]; omega, ?_⟩
      rw [List.range_succ, List.filter_append, List.filter_cons_of_pos (by rw [hpx]), List.filter_nil, List.map_append]
      exact paired_app (paired_mono (fun u b r H2 z => r H2 ((same_toX s').trans (sameX_upd.trans z))) hS) (.cons (fun H2 z => hy H2 (sameX_upd.trans z)) .nil)
    · refine ⟨s.trans s', ws, s' _ _ hw, by omega, ?_⟩
      rw [List.range_succ, List.filter_append, List.filter_cons_of_neg (by rw [hpx]; decide), List.filter_nil, List.append_nil]
      exact paired_mono (fun u b r H2 z => r H2 ((same_toX s').trans z)) hS
  · obtain ⟨s, ws, hw, hwl, hS⟩ := hP
    exact hd H ws s hw (paired_mono (fun u b r => r H (SameX.refl D H)) hS)
/-! ### enumerate -/
theorem for_enum {K : PySem.W.Frag} {a : Addr} {xs : List V} {g : TG} {tb : TS} {D : Ends} {σ : L2.St} {H : Hp} (Pv : Nat → L2.St → Hp → Prop) (h0 : Pv 0 σ H) (keep : ∀ i σ H, Pv i σ H → H a = some (.lst xs))
    (hs : ∀ i x σ H t, xs[i]? = some x → Pv i σ H → H t = none → g (.ref t) σ (upd H t (.tup [.int i, x])) fun σ2 H2 => tb { D with nx := Pv (i + 1), ct := Pv (i + 1), bk := D.nx } σ2 H2) (hd : ∀ σ H, Pv xs.length σ H → D.nx σ H) :
    ∃ W : Nat → Nat → L2.St → Hp → Prop, (∃ m, W 0 m σ H) ∧ ∀ i m σ H, W i m σ H →
      ((Ite K a).stop i H ∧ D.nx σ H) ∨ ((Ite K a).go i H ∧ ∃ N : L2.St → Hp → Prop, (∀ σ' H', N σ' H' → ∃ m', m' < m ∧ W (i + 1) m' σ' H') ∧ ∀ x H', (Ite K a).yld i H x H' → g x σ H' fun σ2 H2 => tb { D with nx := N, ct := N, bk := D.nx } σ2 H2) := by
  refine ⟨fun i m σ H => i + m = xs.length ∧ Pv i σ H, ⟨xs.length, Nat.zero_add _, h0⟩, fun i m σ H ⟨e, p⟩ => ?_⟩
  have q : SqL K H a xs := SqL.of (keep i σ H p)
  cases m with
  | zero =>
    have e : i = xs.length := e
    subst e
    exact .inl ⟨⟨xs, q, Nat.le_refl _⟩, hd σ H p⟩
  | succ m =>
    have lt : i < xs.length := by omega
    refine .inr ⟨⟨xs, xs[i], q, List.getElem?_eq_getElem lt⟩, Pv (i + 1), fun σ' H' p' => ⟨m, Nat.lt_succ_self m, by omega, p'⟩, fun v H' y => ?_⟩
    obtain ⟨t, x, rfl, nt, rfl, fx⟩ := y
    exact hs i x σ H t (fx xs q) p nt
end K74
namespace K74
open PySem PySem.Spec PyProof.Rows L2
def tieOk (names : List Int) (t : Tie) : Bool := decide (t.1 < t.2) && decide (t.1 ∈ names) && decide (t.2 ∈ names)
theorem isTree_eq {names : List Int} {E : List Tie} (hs : E.Pairwise ltT) : isTree names E = (decide (E.length + 1 = names.length) && E.all (tieOk names) && tog E names) := by
  unfold isTree
  rw [decide_eq_true (sortD_self strictT hs).symm, Bool.and_true]
  rfl
theorem isTree_bad {names : List Int} {E : List Tie} {t : Tie} (ht : t ∈ E) (h : tieOk names t = false) : isTree names E = false := by
  cases e : isTree names E with
  | false => rfl
  | true =>
    obtain ⟨_, h2, _, _⟩ := isTree_out e
    obtain ⟨a, b, c⟩ := h2 t ht
    unfold tieOk at h
    rw [decide_eq_true a, decide_eq_true b, decide_eq_true c] at h
    exact absurd h (by decide)
section
variable {P : Program} {w : World} {K : PySem.W.Frag} {mg : Str → Option Value} {base : Heap}
def spIsTree : Sp := fun vs H Q _ => ∃ (b : Addr) (ns : List Int) (v : V) (E : List Tie), vs = [.ref b, v] ∧ LI H b ns ∧ isTies H v E ∧ ns.Nodup ∧ 1 ≤ ns.length ∧ ns.length ≤ 20 ∧ E.Pairwise ltT ∧ Pos E ∧ E.length ≤ 40 ∧ ∀ H', Same H H' → Q (.bl (isTree ns E)) H'
theorem kn_istree (S : Std K mg "_law_is_tree" s_L_is_tree) (T : Txt mg) (k1 : Kn P w K mg base 1 "_law_whole" p_L_whole spNum) (k2 : Kn P w K mg base 1 "_law_together" p_L_together spTog) : Kn P w K mg base 2 "_law_is_tree" p_L_is_tree spIsTree := by
  obtain ⟨f1, fd1, G1, b1, g1, e1⟩ := k1
  obtain ⟨f2, fd2, G2, b2, g2, e2⟩ := k2
  refine kn_mk S c_L_is_tree (fun vs H Q E h => ?_) (fun _ _ _ _ _ _ us hl => match us, hl with | [_, _], _ => rfl) (fun f cdv A outer s H vs Q E hr h => ?_)
  · obtain ⟨b, ns, v, t, rfl, _⟩ := h
    rfl
  · obtain ⟨b, ns, v, E, rfl, hL, ⟨l, ws, rfl, hl, hE⟩, hnd, h1, h20, hsort, hpos, h40, q⟩ := h
    refine ⟨_, pss_cons (ps_if (PW.pt (pw_or (pt_not (pt_val (pe_callB call_isi (by rfl) T.isi boot_isinstance (pa_cons (pv 1) (pa_cons (pe_bltn (v := .ty "list") (by rfl) T.list boot_list rfl) pa_nil)))))
        (pw_or1 (pt_cmpR op_ne (pe_callB call_len_seq (by rfl) T.len PySem.boot_len (pa_cons (pv 1) pa_nil)) (pe_op op_sub (pe_callB call_len_seq (by rfl) T.len PySem.boot_len (pa_cons (pv 0) pa_nil)) pe_int) (nomark _)))))
        (pss_one (ps_ret pe_bl)) pss_nil)
      (pss_cons (ps_for PassesOwn.never rfl (pi_list (pv 1)) (pg_name (i := 2) c_L_is_tree.nd rfl (Or.inl rfl))
        (pss_cons (ps_if (PW.pt (pw_or (pt_not (pt_val (pe_callB call_isi (by rfl) T.isi boot_isinstance (pa_cons (pv 2) (pa_cons (pe_bltn (v := .ty "tuple") (by rfl) T.tuple boot_tuple rfl) pa_nil)))))
            (pw_or (pt_cmpR op_ne (pe_callB call_len_seq (by rfl) T.len PySem.boot_len (pa_cons (pv 2) pa_nil)) pe_int (nomark _))
            (pw_or (pt_not (pt_val (pe_call G1 hr (by rfl) g1 e1 b1 .nil pass0 (pa_cons (pe_ix ix_tup (pv 2) pe_int (fun _ _ => rfl)) pa_nil))))
            (pw_or1 (pt_not (pt_val (pe_call G1 hr (by rfl) g1 e1 b1 .nil pass0 (pa_cons (pe_ix ix_tup (pv 2) pe_int (fun _ _ => rfl)) pa_nil)))))))))
          (pss_one (ps_ret pe_bl)) pss_nil)
        (pss_one (ps_if (PW.pt (pw_or (pt_cmpR op_ge (pe_ix ix_tup (pv 2) pe_int (fun _ _ => rfl)) (pe_ix ix_tup (pv 2) pe_int (fun _ _ => rfl)) (nomark _))
            (pw_or (pt_cmpR op_notIn_seq (pe_ix ix_tup (pv 2) pe_int (fun _ _ => rfl)) (pv 0) (by rfl))
            (pw_or1 (pt_cmpR op_notIn_seq (pe_ix ix_tup (pv 2) pe_int (fun _ _ => rfl)) (pv 0) (by rfl))))))
          (pss_one (ps_ret pe_bl)) pss_nil))))
      (pss_one (ps_ret (pe_and (pe_cmpR (op_eqD hr.units) (pv 1) (pe_callB (cr_sortedT rfl) (by rfl) T.sorted boot_sorted (pa_cons (pe_callTy (cr_setOfT rfl hr.units) (by rfl) T.set boot_set (pa_cons (pv 1) pa_nil)) pa_nil)) (nomark _))
        (pe_one (pe_call G2 hr (by rfl) g2 e2 b2 .nil pass0 (pa_cons (pv 1) (pa_cons (pv 0) pa_nil)))))))), ?_⟩
    have hwl := paired_len hE
    have hTree := isTree_eq (names := ns) hsort
    refine ⟨_, rfl, .ref l, .ty "list", _, _, true, rfl, .ty _, ty_lst hl, kit_ty (by decide +kernel), _, rfl, iteF ?_⟩
    refine ⟨_, rfl, l, _, rfl, .inl (SqL.of hl), _, rfl, b, _, rfl, .inl (SqL.of hL), _, _, rfl, rfl, rfl, _, rfl, ?_⟩
    rw [dV, ints_len]
    by_cases hlen : E.length + 1 = ns.length
    · rw [decide_eq_true (show (ws.length : Int) = ns.length - 1 by omega)]
      refine iteF ?_
      refine ⟨_, rfl, l, rfl, ⟨_, SqL.of hl⟩, for_rel (R := isTie) (xs := E) hwl (fun i σ H' => ∃ o, σ = [some (.ref b), some (.ref l), o] ∧ H' = H ∧ (E.take i).all (tieOk ns) = true)
        ⟨none, rfl, rfl, rfl⟩ (fun i σ H' ⟨_, _, e, _⟩ => by rw [e]; exact ⟨hl, hE⟩) (fun i t v σ H' ht hi rt hP => ?_) (fun σ H' hP => ?_)⟩
      · obtain ⟨o, rfl, rfl, hk⟩ := hP
        obtain ⟨p, rfl, htp⟩ := rt
        have hmem := List.mem_of_getElem? ht
        have bad : tieOk ns t = false → Q (.bl false) H' := fun z => by
          rw [isTree_bad hmem z] at q
          exact q _ (Same.refl _)
        have more : tieOk ns t = true → (E.take (i + 1)).all (tieOk ns) = true := fun z => by
          rw [List.take_succ_eq_append_getElem hi, (List.getElem?_eq_some_iff.mp ht).2, List.all_append, hk]
          simp [z]
        refine ⟨_, rfl, .ref p, .ty "tuple", _, _, true, rfl, .ty _, ty_tup htp, kit_ty (by decide +kernel), _, rfl, iteF ?_⟩
        refine ⟨_, rfl, p, _, rfl, .inr (SqT.of htp), rfl, _, rfl, iteN (by rfl) ?_⟩
        refine ⟨_, rfl, p, _, 0, _, rfl, rfl, SqT.of htp, atI_nat (j := 0) rfl, t.1, rfl, _, rfl, iteF ?_⟩
        refine ⟨_, rfl, p, _, 1, _, rfl, rfl, SqT.of htp, atI_nat (j := 1) rfl, t.2, rfl, _, rfl, iteF ?_⟩
        refine ⟨_, rfl, p, _, 0, _, rfl, rfl, SqT.of htp, atI_nat (j := 0) rfl, _, rfl, p, _, 1, _, rfl, rfl, SqT.of htp, atI_nat (j := 1) rfl, _, _, rfl, rfl, _, rfl, ite2 (fun z => ?_) (fun z => ?_)⟩
        · refine bad ?_
          have z := of_decide_eq_true z
          unfold tieOk
          rw [decide_eq_false (by omega)]
          rfl
        · have z : t.1 < t.2 := by
            rcases Int.lt_or_le t.1 t.2 with y | y
            · exact y
            · exact absurd (decide_eq_true y) z
          refine ⟨_, rfl, p, _, 0, _, rfl, rfl, SqT.of htp, atI_nat (j := 0) rfl, _, rfl, r_notin hL ⟨_, rfl, ite2 (fun y => ?_) (fun y => ?_)⟩⟩
          · refine bad ?_
            have y := of_decide_eq_true y
            unfold tieOk
            rw [decide_eq_false y, Bool.and_false]
            rfl
          · have y : t.1 ∈ ns := by
              by_cases u : t.1 ∈ ns
              · exact u
              · exact absurd (decide_eq_true u) y
            refine ⟨_, rfl, p, _, 1, _, rfl, rfl, SqT.of htp, atI_nat (j := 1) rfl, _, rfl, r_notin hL ⟨_, rfl, ite2 (fun x => ?_) (fun x => ?_)⟩⟩
            · refine bad ?_
              have x := of_decide_eq_true x
              unfold tieOk
              rw [decide_eq_false x, Bool.and_false]
            · have x : t.2 ∈ ns := by
                by_cases u : t.2 ∈ ns
                · exact u
                · exact absurd (decide_eq_true u) x
              refine ⟨_, rfl, rfl, more ?_⟩
              unfold tieOk
              rw [decide_eq_true z, decide_eq_true y, decide_eq_true x]
              rfl
      · obtain ⟨o, rfl, rfl, hk⟩ := hP
        rw [List.take_length] at hk
        have hE1 : isTies H' (.ref l) E := ⟨l, ws, rfl, hl, hE⟩
        obtain ⟨l', ks, el, hks, hk1, hks2⟩ := ties_ks hE1
        cases el
        have hkl : ks.length = E.length := by
          have := congrArg List.length hks2
          rw [List.length_map, List.length_map] at this
          exact this
        obtain ⟨B, hB⟩ := pos_bd hpos
        refine ⟨_, rfl, _, rfl, l, ks, rfl, SqL.of hks, fun p hp => SqT.of (hk1 p hp), by omega, fun a L na m1 m2 => ?_⟩
        have s2 : Same H' _ := same_upd (o := SetTO P w a L) na
        refine ⟨a, L, 2, B, rfl, upd_same, fun p hp => SqT.of (s2 _ _ (hk1 p (m1 p hp))), by decide, fun p hp => ?_, fun L' p perm nd l64 pw np => ?_⟩
        · have : p.2 ∈ E.map tl := by
            rw [← hks2]
            exact List.mem_map.mpr ⟨p, m1 p hp, rfl⟩
          obtain ⟨t, ht, e⟩ := List.mem_map.mp this
          rw [← e]
          exact ⟨rfl, hB t ht⟩
        · have s3 : Same _ _ := same_upd (o := .lst (L'.map fun q => V.ref q.1)) np
          have hs := sorted_set hk1 hks2 m1 m2 hB perm nd pw (s2.trans s3) upd_same
          have e : sortT E = E := sortD_self strictT hsort
          rw [e] at hs
          refine ⟨_, _, (enc_lst enc_tie).dp _ _ _ (mono_ties _ _ _ _ (s2.trans s3) hE1), (enc_lst enc_tie).dp _ _ _ hs, (enc_lst (K := K) enc_tie).shaped (by decide) _, (enc_lst (K := K) enc_tie).shaped (by decide) _, _, rfl, iteE (eqv_same (K := K) (enc_lst enc_tie) E) ?_⟩
          have s4 := s2.trans s3
          refine ⟨_, rfl, _, rfl, .ref l, b, E, ns, rfl, mono_ties _ _ _ _ s4 hE1, s4 _ _ hL, hnd, fun z => by rw [z, List.length_nil] at h1; omega, h20, fun H2 s5 => ?_⟩
          rw [hk, decide_eq_true hlen] at hTree
          rw [show isTree ns E = tog E ns by rw [hTree]; rfl] at q
          exact q _ (s4.trans s5)
    · rw [decide_eq_false (show ¬ (ws.length : Int) = ns.length - 1 by omega)]
      refine iteT ?_
      rw [decide_eq_false hlen] at hTree
      rw [hTree] at q
      exact q _ (Same.refl _)
end
end K74
namespace K74
open PySem PySem.Spec PyProof.Rows L2
def isRef : Rel Int := fun _ v _ => ∃ p, v = .ref p
def goodT (folk : List (List Int)) (names : List Int) (E : List Tie) : Prop := isTree names E = true ∧ ∀ r ∈ folk, apart E r = none
/-- what is asked of a paper that is looked at, and what comes of it -/
def WrongQ (folk : List (List Int)) (names : List Int) (H : Hp) (Q : VK) : Paper → Prop
  | .tree E => E.Pairwise ltT ∧ Pos E ∧ E.length ≤ 40 ∧ (goodT folk names E → ∀ H', Same H H' → Q .non H') ∧ (¬ goodT folk names E → ∀ H' p, Same H H' → Q (.ref p) H')
  | .gone ns => Gone folk names ns ∧ ∀ H', Same H H' → Q .non H'
def leftAt (names ns : List Int) (i : Nat) : List Int := names.filter fun x => decide (x ∉ ns.take i)
theorem leftAt_zero {names ns : List Int} : leftAt names ns 0 = names := by
  unfold leftAt
  exact List.filter_eq_self.mpr fun x _ => by simp
theorem leftAt_ok {folk : List (List Int)} {names ns : List Int} (o : Ok folk names) (i : Nat) : Ok folk (leftAt names ns i) :=
  ⟨o.ne, nodup_filter o.nd, fun r hr => ⟨(o.rk r hr).1, fun x hx => (o.rk r hr).2 x (List.mem_filter.mp hx).1⟩⟩
theorem leftAt_in {names ns : List Int} {i : Nat} (h : i < ns.length) (hn : ns.Nodup) (hs : ∀ x ∈ ns, x ∈ names) : ns[i] ∈ leftAt names ns i := by
  refine List.mem_filter.mpr ⟨hs _ (List.getElem_mem h), decide_eq_true fun z => ?_⟩
  have nd := nodup_take (i + 1) hn
  rw [List.take_succ_eq_append_getElem h, List.nodup_append] at nd
  exact nd.2.2 _ z _ (by simp) rfl
theorem apV_none {x : Option Nat} : (!decide (apV x = V.non)) = x.isSome := by
  cases x with
  | none => rfl
  | some m => exact congrArg (!·) (decide_eq_false (fun z => nomatch (show V.int (m : Int) = V.non from z)))
section
variable {P : Program} {w : World} {K : PySem.W.Frag} {mg : Str → Option Value} {base : Heap}
def spWrong : Sp := fun vs H Q _ => ∃ (v : V) (a b : Addr) (folk : List (List Int)) (names : List Int) (p : Paper), vs = [v, .ref a] ∧ isFolk H v folk ∧ Fk folk names ∧ PaperAt H a b p ∧ WrongQ folk names H Q p
theorem kn_wrong (S : Std K mg "_law_wrong" s_L_wrong) (T : Txt mg) (k1 : Kn P w K mg base 2 "_law_is_tree" p_L_is_tree spIsTree) (k2 : Kn P w K mg base 2 "_law_apart" p_L_apart spApart) (k3 : Kn P w K mg base 1 "_law_whole" p_L_whole spNum)
    (k4 : Kn P w K mg base 1 "_law_lasts" p_L_lasts spLasts) (k5 : Kn P w K mg base 1 "_law_hangs" p_L_hangs spHangs) : Kn P w K mg base 3 "_law_wrong" p_L_wrong spWrong := by
  obtain ⟨f1, fd1, G1, b1, g1, e1⟩ := k1
  obtain ⟨f2, fd2, G2, b2, g2, e2⟩ := k2
  obtain ⟨f3, fd3, G3, b3, g3, e3⟩ := k3
  obtain ⟨f4, fd4, G4, b4, g4, e4⟩ := k4
  obtain ⟨f5, fd5, G5, b5, g5, e5⟩ := k5
  refine kn_mk S c_L_wrong (fun vs H Q E h => ?_) (fun _ _ _ _ _ _ us hl => match us, hl with | [_, _], _ => rfl) (fun f cdv A outer s H vs Q E hr h => ?_)
  · obtain ⟨v, a, b, folk, names, p, rfl, _⟩ := h
    rfl
  · obtain ⟨v, a, b, folk, names, p, rfl, hF, F, hP, q⟩ := h
    have hr1 := hr.mono (by decide : 1 ≤ 2)
    refine ⟨_, pss_cons (ps_set (i := 2) c_L_wrong.nd rfl (Or.inr rfl) (pe_callB cr_sorted (by rfl) T.sorted boot_sorted (pa_cons (pe_ix ix_list (pv 0) pe_int (fun _ _ => rfl)) pa_nil)))
      (pss_cons (ps_if (PW.pt (pw_or (pt_not (pt_val (pe_callB call_isi (by rfl) T.isi boot_isinstance (pa_cons (pv 1) (pa_cons (pe_bltn (v := .ty "tuple") (by rfl) T.tuple boot_tuple rfl) pa_nil)))))
          (pw_or (pt_cmpR op_ne (pe_callB call_len_seq (by rfl) T.len PySem.boot_len (pa_cons (pv 1) pa_nil)) pe_int (nomark _))
          (pw_or1 (pt_cmpR op_notIn_seq (pe_ix ix_tup (pv 1) pe_int (fun _ _ => rfl)) (pe_lst (pa_cons pe_str (pa_cons pe_str pa_nil))) (by rfl))))))
        (pss_one (ps_ret (pe_tup (pa_cons pe_str pa_nil)))) pss_nil)
      (pss_cons (ps_set (i := 3) c_L_wrong.nd rfl (Or.inr rfl) (pe_ix ix_tup (pv 1) pe_int (fun _ _ => rfl)))
      (pss_cons (ps_if (pt_cmpR op_eq (pe_ix ix_tup (pv 1) pe_int (fun _ _ => rfl)) pe_str (nomark _))
        (pss_cons (ps_if (pt_not (pt_val (pe_call G1 hr (by rfl) g1 e1 b1 .nil pass0 (pa_cons (pv 2) (pa_cons (pv 3) pa_nil))))) (pss_one (ps_ret (pe_tup (pa_cons pe_str pa_nil)))) pss_nil)
        (pss_cons (ps_setLc (i := 4) (own := [("_law_hand", 9)]) (g := gName 9) rfl c_L_wrong.nd rfl rfl (sw_true rfl rfl rfl (by decide +kernel)) (pi_range1 (by rfl) T.range (pa_cons (pe_callB call_len_seq (by rfl) T.len PySem.boot_len (pa_cons (pv 0) pa_nil)) pa_nil)) (blkOk_by (N := n_L_wrong) (sc := defScope s_L_wrong) (by decide +kernel))
            (fun _ _ _ _ _ => pg_name (i := 9) c_L_wrong.nd rfl (Or.inl rfl)) (fun _ _ _ _ _ => pts_one (pt_cmpR op_notN (pe_call G2 hr (by rfl) g2 e2 b2 .nil pass0 (pa_cons (pv 3) (pa_cons (pe_ix (r := rIxL K) ix_list (pv 0) (pv 9) (fun _ _ => rfl)) pa_nil))) pe_non (nomark _))) (fun _ _ _ _ _ => pv 9))
        (pss_one (ps_ret (pe_ix ix_list (pe_op op_cat (pe_lc (own := [("_law_hand", 9)]) (g := gName 9) (tt := tYes) rfl c_L_wrong.nd (pi_list (pv 4)) (blkOk_by (N := n_L_wrong) (sc := defScope s_L_wrong) (by decide +kernel))
            (fun _ _ _ _ _ => pg_name (i := 9) c_L_wrong.nd rfl (Or.inl rfl)) (fun _ _ _ _ _ => pts_nil) (fun _ _ _ _ _ => pe_tup (pa_cons pe_str (pa_cons (pv 9) pa_nil)))) (pe_lst (pa_cons pe_non pa_nil))) pe_int (fun _ _ => rfl))))))
        pss_nil)
      (pss_cons (ps_if (PW.pt (pw_or (pt_not (pt_val (pe_callB call_isi (by rfl) T.isi boot_isinstance (pa_cons (pv 3) (pa_cons (pe_bltn (v := .ty "list") (by rfl) T.list boot_list rfl) pa_nil)))))
          (pw_or1 (pt_cmpR op_notin_rng (pe_callB call_len_seq (by rfl) T.len PySem.boot_len (pa_cons (pv 3) pa_nil)) (pe_callTy cr_range2 (by rfl) T.range (by decide +kernel) (pa_cons pe_int (pa_cons (pe_callB call_len_seq (by rfl) T.len PySem.boot_len (pa_cons (pv 2) pa_nil)) pa_nil))) (by rfl)))))
        (pss_one (ps_ret (pe_tup (pa_cons pe_str pa_nil)))) pss_nil)
      (pss_cons (ps_if (PW.pt (pw_or (pt_not (pt_val (pe_callB (cr_all rfl) (by rfl) T.all (by decide +kernel) (pa_cons
            (pe_lc (own := [("_law_name", 5)]) (g := gName 5) (tt := tYes) rfl c_L_wrong.nd (pi_list (pv 3)) (blkOk_by (N := n_L_wrong) (sc := defScope s_L_wrong) (by decide +kernel))
              (fun _ _ _ _ _ => pg_name (i := 5) c_L_wrong.nd rfl (Or.inl rfl)) (fun _ _ _ _ _ => pts_nil)
              (fun _ _ _ _ _ => pe_and (pe_call G3 hr1 (by rfl) g3 e3 b3 .nil pass0 (pa_cons (pv 5) pa_nil)) (pe_one (pe_cmpR (r := rIn K false) op_in_seq (pv 5) (pv 2) (by rfl))))) pa_nil))))
          (pw_or1 (pt_cmpR op_lt (pe_lenSetI rfl (by rfl) T.len (by rfl) T.set (pv 3)) (pe_callB call_len_seq (by rfl) T.len PySem.boot_len (pa_cons (pv 3) pa_nil)) (nomark _)))))
        (pss_one (ps_ret (pe_tup (pa_cons pe_str pa_nil)))) pss_nil)
      (pss_cons (ps_set (i := 6) c_L_wrong.nd rfl (Or.inl rfl) (pv 2))
      (pss_cons (ps_for PassesOwn.never rfl (pi_enum (by rfl) T.enum (pa_cons (pv 3) pa_nil)) (pg_tup rfl (pgs_cons (pg_name (i := 7) c_L_wrong.nd rfl (Or.inr rfl)) (pgs_cons (pg_name (i := 5) c_L_wrong.nd rfl (Or.inl rfl)) pgs_nil)))
        (pss_cons (ps_setLc (i := 6) (own := [("_law_one", 10)]) (g := gName 10) (tt := tB (tOp (rIn K true) (tVar 10) (tSl (rSlL K) (tVar 3) tNoPart (tPart (tVar 7))))) rfl c_L_wrong.nd rfl rfl (sw_true rfl rfl rfl (by decide +kernel)) (pi_list (pv 2)) (blkOk_by (N := n_L_wrong) (sc := defScope s_L_wrong) (by decide +kernel))
            (fun _ _ _ _ _ => pg_name (i := 10) c_L_wrong.nd rfl (Or.inl rfl)) (fun _ _ _ _ _ => pts_one (pt_cmpR (r := rIn K true) op_notIn_seq (pv 10) (pe_slice (r := rSlL K) sl_list (pv 3) po_none (po_some (pv 7))) (by rfl))) (fun _ _ _ _ _ => pv 10))
        (pss_one (ps_if (pt_cmpR op_notIn_seq (pv 5) (pe_call G4 hr1 (by rfl) g4 e4 b4 .nil pass0 (pa_cons (pv 0) (pa_cons (pv 6) pa_nil))) (by rfl)) (pss_one (ps_ret (pe_tup (pa_cons pe_str (pa_cons (pv 7) pa_nil))))) pss_nil))))
      (pss_cons (ps_set (i := 8) c_L_wrong.nd rfl (Or.inl rfl) (pe_call G5 hr1 (by rfl) g5 e5 b5 .nil pass0 (pa_cons (pv 0) (pa_cons (pv 6) (pa_cons (pe_ix ix_list (pv 3) (pe_un un_neg pe_int) (fun _ _ => rfl)) pa_nil)))))
      (pss_one (ps_ret (pe_ix ix_list (pe_op op_cat (pe_lc (own := [("_law_name", 5)]) (g := gName 5) (tt := tYes) rfl c_L_wrong.nd (pi_list (pv 8)) (blkOk_by (N := n_L_wrong) (sc := defScope s_L_wrong) (by decide +kernel))
            (fun _ _ _ _ _ => pg_name (i := 5) c_L_wrong.nd rfl (Or.inl rfl)) (fun _ _ _ _ _ => pts_nil) (fun _ _ _ _ _ => pe_tup (pa_cons pe_str (pa_cons (pv 5) pa_nil)))) (pe_lst (pa_cons pe_non pa_nil))) pe_int (fun _ _ => rfl)))))))))))), ?_⟩
    obtain ⟨l, zs, rfl, hl, hp⟩ := hF
    have hzl := paired_len hp
    have hn10 := F.few
    have hn1 := F.rk.pos
    have hf20 := F.many
    have hf1 : 1 ≤ folk.length := List.length_pos_iff.mpr F.rk.ne
    obtain ⟨r0, v0, e0, hv0, hr0⟩ : ∃ r0 v0, folk[0]? = some r0 ∧ zs[0]? = some v0 ∧ isLst isInt H v0 r0 := by
      have h0 : folk[0]? = some folk[0] := List.getElem?_eq_getElem (by omega)
      obtain ⟨v0, x, y⟩ := paired_get' hp h0
      exact ⟨_, v0, h0, x, y⟩
    obtain ⟨b0, rfl, hb0⟩ := isLst_int hr0
    have hm0 := List.mem_of_getElem? e0
    have hrl0 := F.rk.len hm0
    refine ⟨_, rfl, l, zs, 0, _, rfl, rfl, SqL.of hl, atI_nat (j := 0) hv0, b0, r0, rfl, SqL.of hb0, by omega, fun ns0 p0 perm ris n0 => ?_⟩
    have e1 := sorted_ints perm ris (F.rk.rk r0 hm0).1
    rw [F.rk.sort hm0] at e1
    subst e1
    have s0 : Same H (upd H p0 (.lst (ns0.map V.int))) := same_upd n0
    have hN0 : LI (upd H p0 (.lst (ns0.map V.int))) p0 ns0 := upd_same
    have hl0 := s0 _ _ hl
    have hp0 := paired_mono (fun _ _ r => mono_rk _ _ _ _ s0 r) hp
    generalize upd H p0 (.lst (ns0.map V.int)) = H0 at *
    cases p with
    | tree E =>
      obtain ⟨ha, hE⟩ := hP
      obtain ⟨hsort, hpos, h40, good, bad⟩ := q
      have ha0 := s0 _ _ ha
      have hE0 := mono_ties _ _ _ _ s0 hE
      refine ⟨_, rfl, .ref a, .ty "tuple", _, _, true, rfl, .ty _, ty_tup ha0, kit_ty (by decide +kernel), _, rfl, iteF ?_⟩
      refine ⟨_, rfl, a, _, rfl, .inr (SqT.of ha0), rfl, _, rfl, iteN (by rfl) ?_⟩
      refine ⟨_, rfl, a, _, 0, _, rfl, rfl, SqT.of ha0, atI_nat (j := 0) rfl, (by show 2 ≤ sizeLine; decide), fun p1 n1 => ?_⟩
      refine ⟨p1, _, rfl, .inl (SqL.of upd_same), rfl, rfl, _, rfl, iteN (by decide +kernel) ?_⟩
      have s1 : Same H0 _ := same_upd (o := .lst [.str "tree", .str "gone"]) n1
      have s01 := s0.trans s1
      refine ⟨_, rfl, a, _, 1, .ref b, rfl, rfl, SqT.of (s1 _ _ ha0), atI_nat (j := 1) rfl, ?_⟩
      refine ⟨_, rfl, a, _, 0, _, rfl, rfl, SqT.of (s1 _ _ ha0), atI_nat (j := 0) rfl, rfl, _, rfl, iteE (by decide +kernel) ?_⟩
      have hN1 := s1 _ _ hN0
      have hl1 := s1 _ _ hl0
      have hp1 := paired_mono (fun _ _ r => mono_rk _ _ _ _ s1 r) hp0
      have hE1 := mono_ties _ _ _ _ s1 hE0
      generalize upd H0 p1 (.lst [.str "tree", .str "gone"]) = H1 at *
      refine ⟨_, rfl, _, rfl, p0, ns0, .ref b, E, rfl, hN1, hE1, F.rk.nd, hn1, by omega, hsort, hpos, h40, fun H2 s2 => ?_⟩
      have s02 := s01.trans s2
      refine ⟨_, rfl, ?_⟩
      cases hT : isTree ns0 E with
      | false =>
        refine iteT ⟨(by show 1 ≤ sizeLine; decide), fun p2 n2 => ?_⟩
        exact bad (fun g => by rw [g.1] at hT; cases hT) _ p2 (s02.trans (same_upd n2))
      | true =>
        refine iteF ?_
        have hl2 := s2 _ _ hl1
        have hp2 := paired_mono (fun _ _ r => mono_rk _ _ _ _ s2 r) hp1
        have hE2 := mono_ties _ _ _ _ s2 hE1
        have en : (((zs.length : Nat) : Int)).toNat = folk.length := by omega
        refine ⟨_, rfl, l, _, rfl, .inl (SqL.of hl2), _, rfl, by omega, by omega, fun D hD => lc_genR isInt (fun i => (apart E (folk.getD i [])).isSome) (fun (i : Nat) => (i : Int)) hD (by omega) (fun i hi H3 N M s3 yes no => ?_) (fun H3 us s3 hw hp3 => ?_)⟩
        · have hi : i < folk.length := by omega
          have hg : folk[i]? = some (folk.getD i []) := by
            rw [List.getD_eq_getElem?_getD, List.getElem?_eq_getElem hi]
            rfl
          have hp3 := paired_mono (fun _ _ r => mono_rk _ _ _ _ s3 r) hp2
          obtain ⟨vi, hvi, hri⟩ := paired_get' hp3 hg
          obtain ⟨ci, rfl, hci⟩ := isLst_int hri
          have hmi := List.mem_of_getElem? hg
          refine ⟨rfl, _, rfl, _, rfl, _, rfl, l, zs, _, _, rfl, rfl, SqL.of (s3 _ _ hl2), atI_nat (j := i) hvi |> (fun z => by rw [Int.zero_add]; exact z), .ref b, ci, E, folk.getD i [], rfl, mono_ties _ _ _ _ s3 hE2, hci, (F.rk.rk _ hmi).1, by rw [F.rk.len hmi]; omega, fun H4 s4 => ⟨rfl, _, rfl, ?_⟩⟩
          rw [apV_none]
          cases hx : (apart E (folk.getD i [])).isSome with
          | true => exact iteT ⟨_, rfl, by rw [Int.zero_add]; exact yes hx _ _ s4 fun _ _ => rfl⟩
          | false => exact iteF (no hx _ s4)
        · rw [en] at hp3
          have hw' := paired_int hp3
          subst hw'
          have hlate : ∀ xs : List Int, xs = ((List.range folk.length).filter fun i => (apart E (folk.getD i [])).isSome).map (fun (i : Nat) => (i : Int)) → (xs = [] ↔ ∀ r ∈ folk, apart E r = none) := by
            intro xs ex
            rw [ex, List.map_eq_nil_iff, List.filter_eq_nil_iff]
            constructor
            · intro h r hr
              obtain ⟨i, hi, e⟩ := List.getElem_of_mem hr
              have := h i (List.mem_range.mpr hi)
              rw [List.getD_eq_getElem?_getD, List.getElem?_eq_getElem hi] at this
              simp only [Option.getD_some, e] at this
              cases z : apart E r with
              | none => rfl
              | some m => rw [z] at this; exact absurd rfl this
            · intro h i hi
              have hi := List.mem_range.mp hi
              rw [List.getD_eq_getElem?_getD, List.getElem?_eq_getElem hi]
              simp only [Option.getD_some]
              rw [h _ (List.getElem_mem hi)]
              decide
          have hlate := hlate _ rfl
          have hll : (((List.range folk.length).filter fun i => (apart E (folk.getD i [])).isSome).map (fun (i : Nat) => (i : Int))).length ≤ 1000000 := by
            rw [List.length_map]
            refine Nat.le_trans (List.length_filter_le _ _) ?_
            rw [List.length_range]
            omega
          generalize ((List.range folk.length).filter fun i => (apart E (folk.getD i [])).isSome).map (fun (i : Nat) => (i : Int)) = late at *
          have s03 := s02.trans s3
          refine ⟨_, rfl, D, rfl, ⟨_, SqL.of hw⟩, fun D2 hD2 => lc_gen (R := isInt) isRef mono_int (fun _ => true) (fun x => x) hw (int_paired late) hD2 hll (fun x hx v H4 N M s4 _ rx yes no => ?_) (fun H4 us s4 hw4 hp4 => ?_)⟩
          · subst rx
            refine ⟨rfl, lcYes ⟨_, rfl, (by show 2 ≤ sizeLine; decide), fun p5 n5 => yes rfl _ _ (same_upd n5) fun _ _ => ⟨p5, rfl⟩⟩⟩
          · rw [filter_true, List.map_id'] at hp4
            have hul := paired_len hp4
            refine ⟨(by show 1 ≤ sizeLine; decide), fun p6 n6 => ?_⟩
            have s6 : Same H4 _ := same_upd (o := .lst [.non]) n6
            refine ⟨D2, p6, us, [.non], rfl, rfl, s6 _ _ hw4, upd_same, ?_, fun p7 n7 => ?_⟩
            · have : us.length + 1 ≤ 1000001 := by omega
              exact Nat.le_trans this (by decide)
            have s7 : Same _ _ := same_upd (o := .lst (us ++ [.non])) n7
            have s07 := s03.trans (s4.trans (s6.trans s7))
            cases late with
            | nil =>
              cases hp4
              exact ⟨p7, _, 0, _, rfl, rfl, SqL.of upd_same, atI_nat (j := 0) rfl, good ⟨hT, hlate.mp rfl⟩ _ s07⟩
            | cons x xs =>
              cases hp4 with
              | cons rx rt =>
                obtain ⟨pr, rfl⟩ := rx
                exact ⟨p7, _, 0, _, rfl, rfl, SqL.of upd_same, atI_nat (j := 0) rfl, bad (fun g => nomatch (hlate.mpr g.2)) _ pr s07⟩
    | gone ns =>
      obtain ⟨ha, hB⟩ := hP
      obtain ⟨G, q⟩ := q
      have ha0 := s0 _ _ ha
      have hB0 := s0 _ _ hB
      have hns : ns.length < ns0.length := G.few
      have hns1 : 1 ≤ ns.length := G.pos
      refine ⟨_, rfl, .ref a, .ty "tuple", _, _, true, rfl, .ty _, ty_tup ha0, kit_ty (by decide +kernel), _, rfl, iteF ?_⟩
      refine ⟨_, rfl, a, _, rfl, .inr (SqT.of ha0), rfl, _, rfl, iteN (by rfl) ?_⟩
      refine ⟨_, rfl, a, _, 0, _, rfl, rfl, SqT.of ha0, atI_nat (j := 0) rfl, (by show 2 ≤ sizeLine; decide), fun p1 n1 => ?_⟩
      refine ⟨p1, _, rfl, .inl (SqL.of upd_same), rfl, rfl, _, rfl, iteN (by decide +kernel) ?_⟩
      have s1 : Same H0 _ := same_upd (o := .lst [.str "tree", .str "gone"]) n1
      have s01 := s0.trans s1
      refine ⟨_, rfl, a, _, 1, .ref b, rfl, rfl, SqT.of (s1 _ _ ha0), atI_nat (j := 1) rfl, ?_⟩
      refine ⟨_, rfl, a, _, 0, _, rfl, rfl, SqT.of (s1 _ _ ha0), atI_nat (j := 0) rfl, rfl, _, rfl, iteN (by decide +kernel) ?_⟩
      have hN1 := s1 _ _ hN0
      have hl1 := s1 _ _ hl0
      have hp1 := paired_mono (fun _ _ r => mono_rk _ _ _ _ s1 r) hp0
      have hB1 := s1 _ _ hB0
      generalize upd H0 p1 (.lst [.str "tree", .str "gone"]) = H1 at *
      -- a list, of a length that can be
      refine ⟨_, rfl, .ref b, .ty "list", _, _, true, rfl, .ty _, ty_lst hB1, kit_ty (by decide +kernel), _, rfl, iteF ?_⟩
      refine ⟨_, rfl, b, _, rfl, .inl (SqL.of hB1), _, rfl, p0, _, rfl, .inl (SqL.of hN1), _, _, rfl, fun p2 n2 => ?_⟩
      have s2 : Same H1 _ := same_upd (o := .rng 1 ((ns0.map V.int).length : Nat)) n2
      refine ⟨_, p2, 1, _, rfl, rfl, upd_same, _, rfl, iteN ?_ ?_⟩
      · rw [ints_len, ints_len, decide_eq_true (show (1 : Int) ≤ (ns.length : Int) ∧ (ns.length : Int) < (ns0.length : Int) by omega)]
        rfl
      have s02 := s01.trans s2
      have hN2 := s2 _ _ hN1
      have hl2 := s2 _ _ hl1
      have hp2 := paired_mono (fun _ _ r => mono_rk _ _ _ _ s2 r) hp1
      have hB2 := s2 _ _ hB1
      generalize upd H1 p2 _ = H2 at *
      -- unlike names
      refine ⟨_, rfl, b, rfl, ⟨_, SqL.of hB2⟩, fun D hD => lc_gen (R := isInt) isBl mono_int (fun _ => true) (fun _ => true) hB2 (int_paired ns) hD (by omega) (fun n hn v H3 N M s3 _ rx yes no => ?_) (fun H3 us s3 hw hp3 => ?_)⟩
      · subst rx
        exact ⟨rfl, lcYes ⟨_, rfl, n, rfl, _, rfl, iteT ⟨_, rfl, _, rfl, r_in (s3 _ _ hN2) (blT (Q := N) (decide_eq_true (G.sub n hn)) (yes rfl _ _ (Same.refl _) fun _ _ => rfl))⟩⟩⟩
      rw [filter_true] at hp3
      have e := paired_bl hp3
      subst e
      have al : (ns.map fun _ => true).all id = true := by
        rw [List.all_eq_true]
        intro x hx
        obtain ⟨_, _, e⟩ := List.mem_map.mp hx
        rw [← e]
        rfl
      refine ⟨D, _, rfl, SqL.of hw, ?_⟩
      rw [al]
      refine ⟨_, rfl, iteF ?_⟩
      have s03 := s02.trans s3
      have hN3 := s3 _ _ hN2
      have hl3 := s3 _ _ hl2
      have hp3 := paired_mono (fun _ _ r => mono_rk _ _ _ _ s3 r) hp2
      have hB3 := s3 _ _ hB2
      refine ⟨_, rfl, b, ns, rfl, SqL.of hB3, by omega, G.nd, _, rfl, b, _, rfl, .inl (SqL.of hB3), _, _, rfl, rfl, _, rfl, iteN (decide_eq_false (by rw [ints_len]; omega)) ?_⟩
      -- one after the other
      refine ⟨_, rfl, _, rfl, b, _, rfl, SqL.of hB3, for_enum (fun i σ H' => ∃ (o5 o7 : Option V) (pl : Addr), σ = [some (.ref l), some (.ref a), some (.ref p0), some (.ref b), none, o5, some (.ref pl), o7, none, none, none] ∧ Same H3 H' ∧ LI H' pl (leftAt ns0 ns (i - 1)))
        ⟨none, none, p0, rfl, Same.refl _, by rw [leftAt_zero]; exact hN3⟩ (fun i σ H' ⟨_, _, _, _, s4, _⟩ => s4 _ _ hB3) (fun i y σ H' t hy hP nt => ?_) (fun σ H' hP => ?_)⟩
      · obtain ⟨o5, o7, pl, rfl, s4, hpl⟩ := hP
        have hi : i < ns.length := by
          have := (List.getElem?_eq_some_iff.mp hy).1
          rw [ints_len] at this
          exact this
        obtain rfl : y = .int ns[i] := by
          rw [List.getElem?_map, List.getElem?_eq_getElem hi] at hy
          exact (Option.some.inj hy).symm
        have s5 : Same H' (upd H' t (.tup [.int i, .int ns[i]])) := same_upd nt
        have s35 := s4.trans s5
        refine ⟨t, [.int i, .int ns[i]], rfl, SqT.of upd_same, rfl, .int i, [.int ns[i]], rfl, .int ns[i], [], rfl, rfl, ?_⟩
        generalize upd H' t (.tup [.int i, .int ns[i]]) = H5 at *
        have hN5 := s35 _ _ hN3
        have hB5 := s35 _ _ hB3
        refine ⟨_, rfl, p0, rfl, ⟨_, SqL.of hN5⟩, fun D hD => lc_gen (R := isInt) isInt mono_int (fun x => decide (x ∉ ns.take i)) (fun x => x) hN5 (int_paired ns0) hD (by omega) (fun x hx v H6 N M s6 _ rx yes no => ?_) (fun H6 us s6 hw hp6 => ?_)⟩
        · subst rx
          refine ⟨rfl, _, rfl, _, rfl, _, rfl, _, rfl, b, _, rfl, SqL.of (s6 _ _ hB5), fun p7 n7 => ?_⟩
          have h7 : LI (upd H6 p7 (.lst (cutV (ns.map V.int) none (some (i : Int))))) p7 (ns.take i) := by
            show upd H6 p7 _ p7 = _
            rw [upd_same, cut_to, List.map_take]
          refine r_notin h7 ⟨_, rfl, ?_⟩
          refine ite2 (fun e => ?_) (fun e => ?_)
          · exact ⟨_, rfl, yes e _ _ (same_upd n7) fun _ _ => rfl⟩
          · exact no (by simpa using e) _ (same_upd n7)
        · have hw : LI H6 D (leftAt ns0 ns i) := li_of hw hp6
          have o := leftAt_ok F.rk.ok i (ns := ns)
          have hin := leftAt_in hi G.nd G.sub
          have s36 := s35.trans s6
          refine ⟨_, rfl, _, rfl, _, rfl, .ref l, D, folk, leftAt ns0 ns i, rfl, ⟨l, zs, rfl, s36 _ _ hl3, paired_mono (fun _ _ r => mono_rk _ _ _ _ s36 r) hp3⟩, hw, hf20, fun r hr => ⟨by rw [F.rk.len hr]; omega, fun z => ?_⟩, fun H7 p7 s7 n7 h7 => ?_⟩
          · have := (o.rest_mem hr).mpr hin
            rw [z] at this
            cases this
          · have hlast := G.last i hi
            refine r_notin h7 ⟨_, rfl, iteN (decide_eq_false fun z => z hlast) ?_⟩
            exact ⟨_, _, D, rfl, s36.trans s7, s7 _ _ hw⟩
      · obtain ⟨o5, o7, pl, rfl, s4, hpl⟩ := hP
        rw [ints_len] at hpl
        obtain ⟨n, hn⟩ : ∃ n, ns.getLast? = some n := by
          cases e : ns.getLast? with
          | none =>
            rw [List.getLast?_eq_none_iff] at e
            rw [e, List.length_nil] at hns1
            omega
          | some n => exact ⟨n, rfl⟩
        have hlast : (ns.map V.int) = (ns.dropLast.map V.int) ++ [.int n] := by
          have hne : ns ≠ [] := fun e => by rw [e, List.length_nil] at hns1; omega
          rw [List.getLast?_eq_getLast hne] at hn
          have := List.dropLast_concat_getLast hne
          rw [Option.some.inj hn] at this
          rw [← List.map_singleton (f := V.int), ← List.map_append, this]
        have eL : leftAt ns0 ns (ns.length - 1) = ns0.filter fun x => decide (x ∉ ns.dropLast) := by
          unfold leftAt
          rw [List.dropLast_eq_take]
        have o := leftAt_ok F.rk.ok (ns.length - 1) (ns := ns)
        have hlt : ns.length - 1 < ns.length := by omega
        have hin := leftAt_in hlt G.nd G.sub
        have en : ns[ns.length - 1] = n := by
          rw [List.getLast?_eq_getElem?, List.getElem?_eq_getElem hlt] at hn
          exact Option.some.inj hn
        rw [en] at hin
        have hlen : (leftAt ns0 ns (ns.length - 1)).length ≤ ns0.length := List.length_filter_le _ _
        have hang : hangs folk (leftAt ns0 ns (ns.length - 1)) n = [] := by
          rw [eL]
          exact G.hang n hn
        refine ⟨_, rfl, _, rfl, _, rfl, 1, rfl, b, _, -1, _, rfl, rfl, SqL.of (s4 _ _ hB3), by rw [hlast]; exact atI_last _ _, .ref l, pl, folk, leftAt ns0 ns (ns.length - 1), n, rfl, ⟨l, zs, rfl, s4 _ _ hl3, paired_mono (fun _ _ r => mono_rk _ _ _ _ s4 r) hp3⟩, hpl, by omega, fun r hr => ⟨by rw [F.rk.len hr]; omega, (o.rest_mem hr).mpr hin⟩, fun H5 p5 s5 n5 h5 => ?_⟩
        rw [hang] at h5
        have s05 := s03.trans (s4.trans s5)
        refine ⟨_, rfl, p5, rfl, ⟨_, SqL.of h5⟩, fun D2 hD2 => lc_gen (R := isInt) (xs := []) isRef mono_int (fun _ => true) (fun x => x) h5 .nil hD2 (by decide) (fun x hx v H4 N M s4 _ rx yes no => ?_) (fun H6 us s6 hw6 hp6 => ?_)⟩
        · cases hx
        · cases hp6
          refine ⟨(by show 1 ≤ sizeLine; decide), fun p6 n6 => ?_⟩
          have s7 : Same H6 _ := same_upd (o := .lst [.non]) n6
          refine ⟨D2, p6, [], [.non], rfl, rfl, s7 _ _ hw6, upd_same, (by show 1 ≤ sizeLine; decide), fun p7 n7 => ?_⟩
          have s8 : Same _ _ := same_upd (o := .lst ([] ++ [.non])) n7
          exact ⟨p7, _, 0, _, rfl, rfl, SqL.of upd_same, atI_nat (j := 0) rfl, q _ (s05.trans (s6.trans (s7.trans s8)))⟩
end
end K74
namespace K74
open PySem PySem.Spec PyProof.Rows L2
/-- a power of any base, of few bits in all -/
theorem op_powW {X : Cx} : OpR X (binaryOp .Pow) (rI (fun i j => 0 ≤ j ∧ (Builtin.Int.intBits i : Int) * j ≤ 2 ^ 27) fun i j => .int (i ^ j.toNat)) := opI fun _ _ _ _ _ _ _ hc q => pow_int hc.1 hc.2 q
/-- what is left to draw from: k draws at most were made -/
def Lf (H : Hp) (a : Addr) (k : Nat) : Prop := ∃ n m j : Int, H a = some (.lst [.int n, .int m, .int j]) ∧ 0 ≤ n ∧ (m = 0 → n < 2147483629) ∧ 0 ≤ j ∧ j ≤ k
theorem Lf.same {H H' : Hp} {a : Addr} {k : Nat} (h : Lf H a k) (s : Same H H') : Lf H' a k := by
  obtain ⟨n, m, j, e, r⟩ := h
  exact ⟨n, m, j, s _ _ e, r⟩
theorem Lf.mono {H : Hp} {a : Addr} {k k' : Nat} (h : Lf H a k) (l : k ≤ k') : Lf H a k' := by
  obtain ⟨n, m, j, e, p, q, r, z⟩ := h
  exact ⟨n, m, j, e, p, q, r, by omega⟩
theorem Lf.upd {H : Hp} {a b : Addr} {k : Nat} {o : HO} (h : Lf H a k) (n : a ≠ b) : Lf (upd H b o) a k := by
  obtain ⟨x, m, j, e, r⟩ := h
  exact ⟨x, m, j, by rw [upd_ne n]; exact e, r⟩
theorem Lf.some {H : Hp} {a : Addr} {k : Nat} (h : Lf H a k) {p : Addr} (n : H p = none) : p ≠ a := by
  obtain ⟨x, m, j, e, r⟩ := h
  exact (ne_of_none e n).symm
section
variable {P : Program} {w : World} {K : PySem.W.Frag} {mg : Str → Option Value} {base : Heap}
def spMix : Sp := fun vs H Q _ => ∃ n k : Int, vs = [.int n, .int k] ∧ 0 ≤ n ∧ n < 2147483629 ∧ 0 ≤ k ∧ k < 1000000000 ∧ ∀ r : Int, 0 ≤ r → r < 2147483587 → Q (.int r) H
theorem kn_mix (S : Std K mg "_law_mix" s_L_mix) (T : Txt mg) : Kn P w K mg base 1 "_law_mix" p_L_mix spMix := by
  refine kn_mk S c_L_mix (fun vs H Q E h => ?_) (fun _ _ _ _ _ _ us hl => match us, hl with | [_, _], _ => rfl) (fun f cdv A outer s H vs Q E hr h => ?_)
  · obtain ⟨n, k, rfl, _⟩ := h
    rfl
  · obtain ⟨n, k, rfl, n0, n1, k0, k1, q⟩ := h
    refine ⟨_, pss_cons (ps_set (i := 2) c_L_mix.nd rfl (Or.inl rfl) (pe_op op_mod (pe_op op_mul (pe_op op_add (pe_op op_add (pe_op op_mul (pv 0) (pv 0)) (pe_op op_mul (pv 1) (pv 0))) (pe_op op_mul (pe_op op_mul pe_int (pv 1)) (pv 1))) pe_int) pe_int))
      (pss_one (ps_ret (pe_op op_mod (pe_op op_mul (pv 2) (pv 2)) pe_int))), ?_⟩
    refine ⟨_, rfl, _, rfl, _, _, rfl, rfl, .inl ⟨by omega, by omega⟩, _, rfl, _, rfl, _, _, rfl, rfl, .inl ⟨by omega, by omega⟩, _, _, rfl, rfl, _, rfl, _, _, rfl, rfl, .inl ⟨by decide, by decide⟩, _, rfl, _, _, rfl, rfl, .inl ⟨by omega, by omega⟩, _, _, rfl, rfl, _, _, rfl, rfl, .inr ⟨by decide, by decide⟩, _, _, rfl, rfl, (by show (0 : Int) < 2147483629; decide), ?_⟩
    have m0 := Int.emod_nonneg ((n * n + k * n + 7 * k * k) * 1103515245) (show (2147483629 : Int) ≠ 0 by decide)
    have m1 := Int.emod_lt_of_pos ((n * n + k * n + 7 * k * k) * 1103515245) (show (0 : Int) < 2147483629 by decide)
    generalize (n * n + k * n + 7 * k * k) * 1103515245 % 2147483629 = m at *
    exact ⟨_, rfl, _, rfl, _, _, rfl, rfl, .inl ⟨by omega, by omega⟩, _, _, rfl, rfl, (by show (0 : Int) < 2147483587; decide), q _ (Int.emod_nonneg _ (by decide)) (Int.emod_lt_of_pos _ (by decide))⟩
def spLeft : Sp := fun vs H Q _ => ∃ n : Int, vs = [.int n] ∧ ∀ H' p, Same H H' → H p = none → Lf H' p 0 → Q (.ref p) H'
theorem kn_left (S : Std K mg "_law_left" s_L_left) (T : Txt mg) : Kn P w K mg base 1 "_law_left" p_L_left spLeft := by
  refine kn_mk S c_L_left (fun vs H Q E h => ?_) (fun _ _ _ _ _ _ us hl => match us, hl with | [_], _ => rfl) (fun f cdv A outer s H vs Q E hr h => ?_)
  · obtain ⟨n, rfl, _⟩ := h
    rfl
  · obtain ⟨n, rfl, q⟩ := h
    refine ⟨_, pss_cons (ps_if (pt_cmpR op_lt (pv 0) (pe_op op_powW pe_int pe_int) (nomark _)) (pss_one (ps_ret (pe_lst (pa_cons (pe_op op_mod (pv 0) pe_int) (pa_cons pe_int (pa_cons pe_int pa_nil)))))) pss_nil)
      (pss_one (ps_ret (pe_lst (pa_cons (pe_op op_mod (pe_op op_sub (pv 0) (pe_op op_powW pe_int pe_int)) (pe_op op_powW (pe_op op_powW (pe_op op_powW pe_int pe_int) pe_int) pe_int)) (pa_cons pe_int (pa_cons pe_int pa_nil)))))), ?_⟩
    refine ⟨_, rfl, _, _, rfl, rfl, ⟨by decide, by decide +kernel⟩, _, _, rfl, rfl, _, rfl, ite2 (fun h => ?_) (fun h => ?_)⟩
    · refine ⟨_, rfl, _, _, rfl, rfl, (by show (0 : Int) < 2147483629; decide), (by show 3 ≤ sizeLine; decide), fun p np => ?_⟩
      exact q _ p (same_upd np) np ⟨_, 0, 0, upd_same, Int.emod_nonneg _ (by decide), fun _ => Int.emod_lt_of_pos _ (by decide), by decide, by decide⟩
    · refine ⟨_, rfl, _, _, rfl, rfl, ⟨by decide, by decide +kernel⟩, _, _, rfl, rfl, _, _, rfl, rfl, ⟨by decide, by decide +kernel⟩, _, _, rfl, rfl, ⟨by decide, by decide +kernel⟩, _, _, rfl, rfl, ⟨by decide, by decide +kernel⟩, _, _, rfl, rfl, ?_⟩
      have pos : (0 : Int) < (((10 : Int) ^ (60 : Int).toNat) ^ (20 : Int).toNat) ^ (5 : Int).toNat := by decide +kernel
      refine ⟨pos, (by show 3 ≤ sizeLine; decide), fun p np => ?_⟩
      generalize (((10 : Int) ^ (60 : Int).toNat) ^ (20 : Int).toNat) ^ (5 : Int).toNat = M at *
      exact q _ p (same_upd np) np ⟨_, 1, 0, upd_same, Int.emod_nonneg _ (by omega), fun z => absurd z (by decide), by decide, by decide⟩
def spDraw : Sp := fun vs H Q _ => ∃ (a : Addr) (b : Int) (k : Nat), vs = [.ref a, .int b] ∧ Lf H a k ∧ k ≤ 1000000 ∧ 1 ≤ b ∧ b ≤ 1000000000 ∧ ∀ (r : Int) (H' : Hp), 0 ≤ r → r < b → SameX a H H' → Lf H' a (k + 1) → Q (.int r) H'
theorem kn_draw (S : Std K mg "_law_draw" s_L_draw) (T : Txt mg) (k1 : Kn P w K mg base 1 "_law_mix" p_L_mix spMix) : Kn P w K mg base 2 "_law_draw" p_L_draw spDraw := by
  obtain ⟨f1, fd1, G1, b1, g1, e1⟩ := k1
  refine kn_mk S c_L_draw (fun vs H Q E h => ?_) (fun _ _ _ _ _ _ us hl => match us, hl with | [_, _], _ => rfl) (fun f cdv A outer s H vs Q E hr h => ?_)
  · obtain ⟨a, b, k, rfl, _⟩ := h
    rfl
  · obtain ⟨a, b, k, rfl, ⟨n, m, j, hL, n0, nm, j0, jk⟩, hk, h1, h9, q⟩ := h
    refine ⟨_, pss_cons (ps_asg (pe_op op_add (pe_ix ix_list (pv 0) pe_int (fun _ _ => rfl)) pe_int) (pg_sub (pv 0) pe_int set_list))
      (pss_cons (ps_if (pt_cmpR op_eq (pe_ix ix_list (pv 0) pe_int (fun _ _ => rfl)) pe_int (nomark _))
        (pss_cons (ps_set (i := 2) c_L_draw.nd rfl (Or.inl rfl) (pe_call G1 hr (by rfl) g1 e1 b1 .nil pass0 (pa_cons (pe_ix ix_list (pv 0) pe_int (fun _ _ => rfl)) (pa_cons (pe_ix ix_list (pv 0) pe_int (fun _ _ => rfl)) pa_nil))))
        (pss_cons (ps_if (pt_cmpR op_gt (pv 1) (pe_op op_powW pe_int pe_int) (nomark _)) pss_never pss_nil)
        (pss_one (ps_ret (pe_op op_mod (pe_op op_mod (pe_op op_mul (pv 2) (pe_op op_add (pv 2) pe_int)) pe_int) (pv 1)))))) pss_nil)
      (pss_cons (ps_set (i := 3) c_L_draw.nd rfl (Or.inl rfl) (pe_op op_mod (pe_ix ix_list (pv 0) pe_int (fun _ _ => rfl)) (pv 1)))
      (pss_cons (ps_asg (pe_op op_fdivN (pe_ix ix_list (pv 0) pe_int (fun _ _ => rfl)) (pv 1)) (pg_sub (pv 0) pe_int set_list))
      (pss_one (ps_ret (pv 3)))))), ?_⟩
    refine ⟨_, rfl, a, _, 2, .int j, rfl, rfl, SqL.of hL, atI_nat (j := 2) rfl, _, _, rfl, rfl, _, rfl, a, _, 2, 2, rfl, rfl, hL, (by show ixN 3 2 = some 2; decide), ?_⟩
    have hL1 : upd H a (.lst (([.int n, .int m, .int j] : List V).set 2 (.int (j + 1)))) a = some (.lst [.int n, .int m, .int (j + 1)]) := upd_same
    have x1 : SameX a H (upd H a (.lst (([.int n, .int m, .int j] : List V).set 2 (.int (j + 1))))) := sameX_upd
    generalize upd H a (.lst (([.int n, .int m, .int j] : List V).set 2 (.int (j + 1)))) = H1 at *
    refine ⟨_, rfl, a, _, 1, .int m, rfl, rfl, SqL.of hL1, atI_nat (j := 1) rfl, rfl, _, rfl, ?_⟩
    rw [dV]
    refine ite2 (fun hm => ?_) (fun hm => ?_)
    · have hm := of_decide_eq_true hm
      have hn := nm hm
      refine ⟨_, rfl, a, _, 0, .int n, rfl, rfl, SqL.of hL1, atI_nat (j := 0) rfl, _, rfl, a, _, 2, .int (j + 1), rfl, rfl, SqL.of hL1, atI_nat (j := 2) rfl, n, j + 1, rfl, n0, hn, by omega, by omega, fun r r0 r1 => ?_⟩
      refine ⟨_, rfl, _, _, rfl, rfl, ⟨by decide, by decide +kernel⟩, _, _, rfl, rfl, _, rfl, iteN (decide_eq_false ?_) ?_⟩
      · have : ((10 : Int) ^ (9 : Int).toNat) = 1000000000 := by decide
        omega
      · refine ⟨_, rfl, _, rfl, _, _, rfl, rfl, _, _, rfl, rfl, .inl ⟨by omega, by omega⟩, _, _, rfl, rfl, (by show (0 : Int) < 2147483579; decide), _, rfl, _, _, rfl, rfl, (by omega), ?_⟩
        exact q _ _ (Int.emod_nonneg _ (by omega)) (Int.emod_lt_of_pos _ (by omega)) x1 ⟨n, m, j + 1, hL1, n0, nm, by omega, by omega⟩
    · have hm : ¬ m = 0 := fun z => hm (decide_eq_true z)
      refine ⟨_, rfl, a, _, 0, .int n, rfl, rfl, SqL.of hL1, atI_nat (j := 0) rfl, _, rfl, _, _, rfl, rfl, (by omega), ?_⟩
      refine ⟨_, rfl, a, _, 0, .int n, rfl, rfl, SqL.of hL1, atI_nat (j := 0) rfl, _, rfl, _, _, rfl, rfl, ⟨by omega, by omega⟩, _, rfl, a, _, 0, 0, rfl, rfl, hL1, (by show ixN 3 0 = some 0; decide), ?_⟩
      refine ⟨_, rfl, ?_⟩
      refine q _ _ (Int.emod_nonneg _ (by omega)) (Int.emod_lt_of_pos _ (by omega)) (x1.trans sameX_upd) ⟨n.fdiv b, m, j + 1, upd_same, ?_, fun z => absurd z hm, by omega, by omega⟩
      rw [Int.fdiv_eq_ediv_of_nonneg _ (by omega)]
      exact Int.ediv_nonneg n0 (by omega)
end
end K74
namespace K74
open PySem PySem.Spec PyProof.Rows L2
theorem sameX_put {a : Addr} {H H1 : Hp} {D : Addr} {o : HO} (s : SameX a H H1) (n : H D = none) : SameX a H (upd H1 D o) := fun b x nb e => by
  rw [upd_ne (ne_of_none e n)]
  exact s b x nb e
/-- a place in a list that is not below nought -/
theorem at_int {α : Type} {xs : List α} {r : Int} (h0 : 0 ≤ r) (h1 : r < xs.length) : ∃ v, atI xs r = some v ∧ v ∈ xs := by
  have hi : r.toNat < xs.length := by omega
  refine ⟨xs[r.toNat], ?_, List.getElem_mem hi⟩
  have := atI_nat (xs := xs) (j := r.toNat) (v := xs[r.toNat]) (List.getElem?_eq_getElem hi)
  rw [Int.toNat_of_nonneg h0] at this
  exact this
theorem at_int' {α : Type} {xs : List α} {r : Int} (h0 : 0 ≤ r) (h1 : r < xs.length) : ∃ v, atI xs r = some v ∧ xs[r.toNat]? = some v := by
  have hi : r.toNat < xs.length := by omega
  refine ⟨xs[r.toNat], ?_, List.getElem?_eq_getElem hi⟩
  have := atI_nat (xs := xs) (j := r.toNat) (v := xs[r.toNat]) (List.getElem?_eq_getElem hi)
  rw [Int.toNat_of_nonneg h0] at this
  exact this
section
variable {P : Program} {w : World} {K : PySem.W.Frag} {mg : Str → Option Value} {base : Heap}
def spNames : Sp := fun vs H Q _ => ∃ (a : Addr) (m k : Nat), vs = [.ref a, .int m] ∧ Lf H a k ∧ k ≤ 100000 ∧ 1 ≤ m ∧ m ≤ 10 ∧ ∀ H' p ns, SameX a H H' → Lf H' a (k + 20) → H p = none → p ≠ a → LI H' p ns → ns.Pairwise (fun x y : Int => x < y) → ns.length = m → (∀ n ∈ ns, 0 ≤ n) → Q (.ref p) H'
theorem kn_names (S : Std K mg "_law_names" s_L_names) (T : Txt mg) (k1 : Kn P w K mg base 2 "_law_draw" p_L_draw spDraw) : Kn P w K mg base 3 "_law_names" p_L_names spNames := by
  obtain ⟨f1, fd1, G1, b1, g1, e1⟩ := k1
  refine kn_mk S c_L_names (fun vs H Q E h => ?_) (fun _ _ _ _ _ _ us hl => match us, hl with | [_, _], _ => rfl) (fun f cdv A outer s H vs Q E hr h => ?_)
  · obtain ⟨a, m, k, rfl, _⟩ := h
    rfl
  · obtain ⟨a, m, k, rfl, hL, hk, m1, m10, q⟩ := h
    refine ⟨_, pss_cons (ps_set (i := 2) c_L_names.nd rfl (Or.inl rfl) (pe_ix ix_list (pe_lst (pa_cons pe_int (pa_cons pe_int (pa_cons pe_int (pa_cons (pe_op op_powW pe_int pe_int) pa_nil))))) (pe_call G1 hr (by rfl) g1 e1 b1 .nil pass0 (pa_cons (pv 0) (pa_cons pe_int pa_nil))) (fun _ _ => rfl)))
      (pss_cons (ps_set (i := 3) c_L_names.nd rfl (Or.inl rfl) (pe_lst pa_nil))
      (pss_cons (ps_set (i := 4) c_L_names.nd rfl (Or.inl rfl) (pe_un un_neg pe_int))
      (pss_cons (ps_for PassesOwn.never rfl (pi_range1 (by rfl) T.range (pa_cons (pv 1) pa_nil)) (pg_name (i := 5) c_L_names.nd rfl (Or.inl rfl))
        (pss_cons (ps_set (i := 4) c_L_names.nd rfl (Or.inl rfl) (pe_op op_add (pe_op op_add (pv 4) pe_int) (pe_call G1 hr (by rfl) g1 e1 b1 .nil pass0 (pa_cons (pv 0) (pa_cons (pv 2) pa_nil)))))
        (pss_one (ps_expr (pe_bm PySem.F.plainAttrs_list PySem.F.slot_list_append PySem.F.type_list_append mt_append (pv 3) (pa_cons (pv 4) pa_nil))))))
      (pss_one (ps_ret (pv 3)))))), ?_⟩
    refine ⟨_, _, rfl, rfl, ⟨by decide, by decide +kernel⟩, (by show 4 ≤ sizeLine; decide), fun p0 n0 => ?_⟩
    have s0 : Same H (upd H p0 (.lst [.int 1, .int 1, .int 3, .int ((10 : Int) ^ (9 : Int).toNat)])) := same_upd n0
    have hp0 : upd H p0 (.lst [.int 1, .int 1, .int 3, .int ((10 : Int) ^ (9 : Int).toNat)]) p0 = some (.lst [.int 1, .int 1, .int 3, .int ((10 : Int) ^ (9 : Int).toNat)]) := upd_same
    have n0a := hL.some n0
    have hL0 := hL.same s0
    generalize upd H p0 (.lst [.int 1, .int 1, .int 3, .int ((10 : Int) ^ (9 : Int).toNat)]) = H0 at *
    refine ⟨_, rfl, a, 4, k, rfl, hL0, by omega, by decide, by decide, fun r H1 r0 r4 x1 hL1 => ?_⟩
    obtain ⟨v, hv, hmem⟩ := at_int (xs := [V.int 1, V.int 1, V.int 3, V.int ((10 : Int) ^ (9 : Int).toNat)]) r0 r4
    obtain ⟨far, rfl, f1, f9⟩ : ∃ far : Int, v = .int far ∧ 1 ≤ far ∧ far ≤ 1000000000 := by
      simp only [List.mem_cons, List.not_mem_nil, or_false] at hmem
      rcases hmem with e | e | e | e
      · exact ⟨1, e, by decide, by decide⟩
      · exact ⟨1, e, by decide, by decide⟩
      · exact ⟨3, e, by decide, by decide⟩
      · exact ⟨_, e, by decide, by decide⟩
    refine ⟨p0, _, r, _, rfl, rfl, SqL.of (x1 _ _ n0a hp0), hv, ?_⟩
    have x01 : SameX a H H1 := (same_toX s0).trans x1
    refine ⟨Nat.zero_le _, fun pf nf => ?_⟩
    have s2 : Same H1 (upd H1 pf (.lst [])) := same_upd nf
    have npf : H pf = none := by
      cases e : H pf with
      | none => rfl
      | some o =>
        have := x01 pf o (hL1.some nf) e
        rw [nf] at this
        cases this
    refine ⟨1, rfl, ?_⟩
    refine ⟨_, rfl, m, rfl, by omega, by omega, for_range (lo := 0) (n := (m : Int).toNat) (fun i σ H' => ∃ (last : Int) (o5 : Option V) (ns : List Int), σ = [some (.ref a), some (.int m), some (.int far), some (.ref pf), some (.int last), o5] ∧ SameX a H H' ∧ Lf H' a (k + 1 + i) ∧ LI H' pf ns ∧
      ns.Pairwise (fun x y : Int => x < y) ∧ ns.length = i ∧ (∀ n ∈ ns, 0 ≤ n ∧ n ≤ last) ∧ -1 ≤ last) ⟨-1, none, [], rfl, x01.trans (same_toX s2), hL1.same s2, upd_same, .nil, rfl, fun _ z => (nomatch z), by decide⟩ (fun i σ H2 hi hP => ?_) (fun σ H2 hP => ?_)⟩
    · obtain ⟨last, o5, ns, rfl, x2, hL2, hns, hpw, hlen, hle, hlast⟩ := hP
      refine ⟨_, rfl, _, _, rfl, rfl, _, rfl, _, rfl, a, far, k + 1 + i, rfl, hL2, by omega, f1, f9, fun r2 H3 r20 r21 x3 hL3 => ?_⟩
      refine ⟨_, _, rfl, rfl, ?_⟩
      have hns3 := x3 _ _ (hL1.some nf) hns
      refine ⟨_, rfl, .inl ⟨rfl, _, SqL.of hns3⟩, _, rfl, pf, _, _, rfl, rfl, hns3, Nat.lt_of_le_of_lt (show (ns.map V.int).length ≤ 1000 by rw [ints_len]; omega) (by decide), ?_⟩
      refine ⟨last + 1 + r2, _, ns ++ [last + 1 + r2], rfl, sameX_put (x2.trans x3) npf, (hL3.mono (by omega)).upd (hL1.some nf).symm, ?_, ?_, by rw [List.length_append, List.length_singleton, hlen], fun n hn => ?_, by omega⟩
      · show upd H3 pf _ pf = _
        rw [upd_same, List.map_append]
        rfl
      · rw [List.pairwise_append]
        refine ⟨hpw, by simp, fun x hx y hy => ?_⟩
        rw [List.mem_singleton] at hy
        have := (hle x hx).2
        omega
      · rcases List.mem_append.mp hn with hn | hn
        · have := hle n hn
          omega
        · rw [List.mem_singleton] at hn
          omega
    · obtain ⟨last, o5, ns, rfl, x2, hL2, hns, hpw, hlen, hle, hlast⟩ := hP
      exact ⟨_, rfl, q H2 pf ns x2 (hL2.mono (by omega)) npf (hL1.some nf) hns hpw (by omega) fun n hn => (hle n hn).1⟩
def spShuf : Sp := fun vs H Q _ => ∃ (a b : Addr) (ns : List Int) (k : Nat), vs = [.ref a, .ref b] ∧ Lf H a k ∧ k ≤ 100000 ∧ a ≠ b ∧ LI H b ns ∧ ns.length ≤ 10 ∧ ∀ H' p ms, SameX a H H' → Lf H' a (k + 10) → H p = none → p ≠ a → LI H' p ms → ms.Perm ns → Q (.ref p) H'
theorem perm_ins {α : Type} (xs : List α) (y : α) (i : Nat) : (xs.take i ++ [y] ++ xs.drop i).Perm (xs ++ [y]) := by
  have h1 : (xs.take i ++ [y] ++ xs.drop i).Perm ([y] ++ (xs.take i ++ xs.drop i)) := by
    rw [List.append_assoc]
    exact (List.perm_append_comm_assoc _ _ _)
  rw [List.take_append_drop] at h1
  exact h1.trans List.perm_append_comm
theorem kn_shuf (S : Std K mg "_law_shuffled" s_L_shuffled) (T : Txt mg) (k1 : Kn P w K mg base 2 "_law_draw" p_L_draw spDraw) : Kn P w K mg base 3 "_law_shuffled" p_L_shuffled spShuf := by
  obtain ⟨f1, fd1, G1, b1, g1, e1⟩ := k1
  refine kn_mk S c_L_shuffled (fun vs H Q E h => ?_) (fun _ _ _ _ _ _ us hl => match us, hl with | [_, _], _ => rfl) (fun f cdv A outer s H vs Q E hr h => ?_)
  · obtain ⟨a, b, ns, k, rfl, _⟩ := h
    rfl
  · obtain ⟨a, b, ns, k, rfl, hL, hk, hab, hN, hlen, q⟩ := h
    refine ⟨_, pss_cons (ps_set (i := 2) c_L_shuffled.nd rfl (Or.inl rfl) (pe_lst pa_nil))
      (pss_cons (ps_for PassesOwn.never rfl (pi_list (pv 1)) (pg_name (i := 3) c_L_shuffled.nd rfl (Or.inl rfl))
        (pss_one (ps_expr (pe_bm PySem.F.plainAttrs_list PySem.F.slot_list_insert PySem.F.type_list_insert mt_insert (pv 2) (pa_cons (pe_call G1 hr (by rfl) g1 e1 b1 .nil pass0 (pa_cons (pv 0) (pa_cons (pe_op op_add (pe_callB call_len_seq (by rfl) T.len PySem.boot_len (pa_cons (pv 2) pa_nil)) pe_int) pa_nil))) (pa_cons (pv 3) pa_nil))))))
      (pss_one (ps_ret (pv 2)))), ?_⟩
    refine ⟨Nat.zero_le _, fun pf nf => ?_⟩
    have s0 : Same H (upd H pf (.lst [])) := same_upd nf
    have nfa := hL.some nf
    have nfb : b ≠ pf := ne_of_none hN nf
    refine ⟨_, rfl, b, rfl, ⟨_, SqL.of (s0 _ _ hN)⟩, for_rel (R := isInt) (xs := ns) (ints_len ns) (fun i σ H' => ∃ (o3 : Option V) (ms : List Int), σ = [some (.ref a), some (.ref b), some (.ref pf), o3] ∧ SameX a H H' ∧ Lf H' a (k + i) ∧ LI H' pf ms ∧ ms.Perm (ns.take i))
      ⟨none, [], rfl, same_toX s0, hL.same s0, upd_same, .nil⟩ (fun i σ H' ⟨_, _, _, x, _⟩ => ⟨x _ _ hab.symm hN, int_paired ns⟩) (fun i x v σ H1 hx hi rx hP => ?_) (fun σ H1 hP => ?_)⟩
    · obtain ⟨o3, ms, rfl, x1, hL1, hms, hperm⟩ := hP
      subst rx
      have hml : ms.length = i := by
        rw [hperm.length_eq, List.length_take]
        omega
      refine ⟨_, rfl, .inl ⟨rfl, _, SqL.of hms⟩, _, rfl, _, rfl, pf, _, rfl, .inl (SqL.of hms), _, _, rfl, rfl, a, _, k + i, rfl, hL1, by omega, by rw [ints_len]; omega, by rw [ints_len]; omega, fun r H2 r0 r1 x2 hL2 => ?_⟩
      have hms2 := x2 _ _ nfa hms
      rw [ints_len] at r1
      refine ⟨_, rfl, pf, _, r, _, rfl, rfl, hms2, Nat.lt_of_le_of_lt (show (ms.map V.int).length ≤ 1000 by rw [ints_len]; omega) (by decide), r0, by omega, ?_⟩
      refine ⟨_, ms.take r.toNat ++ [x] ++ ms.drop r.toNat, rfl, sameX_put (x1.trans x2) nf, hL2.upd nfa.symm, ?_, ?_⟩
      · show upd H2 pf _ pf = _
        rw [upd_same, List.map_append, List.map_append, List.map_take, List.map_drop]
        rfl
      · rw [List.take_succ_eq_append_getElem hi, (List.getElem?_eq_some_iff.mp hx).2]
        exact (perm_ins ms x _).trans (hperm.append_right [x])
    · obtain ⟨o3, ms, rfl, x1, hL1, hms, hperm⟩ := hP
      rw [List.take_length] at hperm
      exact ⟨_, rfl, q H1 pf ms x1 (hL1.mono (by omega)) nf nfa hms hperm⟩
end
end K74
namespace K74
open PySem PySem.Spec PyProof.Rows L2
theorem sameX_free {a : Addr} {H H1 : Hp} (s : SameX a H H1) {p : Addr} (n : H1 p = none) (h : p ≠ a) : H p = none := by
  cases e : H p with
  | none => rfl
  | some o =>
    have := s p o h e
    rw [n] at this
    cases this
/-- a tie whose tuple is neither at a nor at b -/
def isTieX (a b : Addr) : Rel Tie := fun H v t => ∃ p, v = .ref p ∧ p ≠ a ∧ p ≠ b ∧ H p = some (.tup [.int t.1, .int t.2])
theorem tieX_x {a b : Addr} {H H' : Hp} (s : SameX a H H') {v : V} {t : Tie} (h : isTieX a b H v t) : isTieX a b H' v t := by
  obtain ⟨p, e, na, nb, h⟩ := h
  exact ⟨p, e, na, nb, s p _ na h⟩
theorem tieX_upd {a b : Addr} {H : Hp} {o : HO} {v : V} {t : Tie} (h : isTieX a b H v t) : isTieX a b (upd H b o) v t := by
  obtain ⟨p, e, na, nb, h⟩ := h
  exact ⟨p, e, na, nb, by rw [upd_ne nb]; exact h⟩
theorem tieX_tie {a b : Addr} {H : Hp} {v : V} {t : Tie} (h : isTieX a b H v t) : isTie H v t := by
  obtain ⟨p, e, na, nb, h⟩ := h
  exact ⟨p, e, h⟩
theorem paired_up {a b : Addr} {H : Hp} : ∀ {ys : List V} {E : List Tie}, Paired (isTie H) ys E → (∀ y ∈ ys, ∃ t, isTieX a b H y t) → Paired (isTieX a b H) ys E
  | _, _, .nil, _ => .nil
  | y :: ys, t :: E, .cons ⟨p, e, h⟩ r, all => by
    refine .cons ?_ (paired_up r fun z hz => all z (List.mem_cons_of_mem _ hz))
    obtain ⟨u, p', e', na, nb, h'⟩ := all y List.mem_cons_self
    rw [e] at e'
    cases e'
    exact ⟨p, e, na, nb, h⟩
theorem nearOf_one {f : List Int} (t : Tie) : ∀ (E : List Tie), nearOf f (E ++ [t]) = nearOf f E ++ nearOf f [t]
  | [] => rfl
  | u :: E => by
    show nearOf f (u :: (E ++ [t])) = nearOf f (u :: E) ++ nearOf f [t]
    unfold nearOf
    split
    · exact nearOf_one t E
    · rw [List.cons_append, nearOf_one t E]
      rfl
theorem nearOf_take {f : List Int} {E : List Tie} {i : Nat} {t : Tie} (h : E[i]? = some t) : nearOf f (E.take (i + 1)) = nearOf f (E.take i) ++ nearOf f [t] := by
  have hi := (List.getElem?_eq_some_iff.mp h).1
  rw [List.take_succ_eq_append_getElem hi, (List.getElem?_eq_some_iff.mp h).2, nearOf_one]
theorem nearOf_len {f : List Int} : ∀ (E : List Tie), (nearOf f E).length ≤ E.length
  | [] => Nat.le_refl _
  | t :: E => by
    unfold nearOf
    have := nearOf_len (f := f) E
    split
    · rw [List.length_cons]
      omega
    · rw [List.length_cons, List.length_cons]
      omega
section
variable {P : Program} {w : World} {K : PySem.W.Frag} {mg : Str → Option Value} {base : Heap}
def spTree : Sp := fun vs H Q _ => ∃ (a b : Addr) (ns : List Int) (k : Nat), vs = [.ref a, .ref b] ∧ Lf H a k ∧ k ≤ 50000 ∧ a ≠ b ∧ LI H b ns ∧ ns.Nodup ∧ 1 ≤ ns.length ∧ ns.length ≤ 10 ∧ (∀ n ∈ ns, 0 ≤ n) ∧
  ∀ H' p E, SameX a H H' → Lf H' a (k + 30) → p ≠ a → (∀ H2, SameX a H' H2 → isTies H2 (.ref p) E) → isTree ns E = true → Q (.ref p) H'
theorem kn_ltree (S : Std K mg "_law_tree" s_L_tree) (T : Txt mg) (k1 : Kn P w K mg base 2 "_law_draw" p_L_draw spDraw) (k2 : Kn P w K mg base 3 "_law_shuffled" p_L_shuffled spShuf) : Kn P w K mg base 4 "_law_tree" p_L_tree spTree := by
  obtain ⟨f1, fd1, G1, b1, g1, e1⟩ := k1
  obtain ⟨f2, fd2, G2, b2, g2, e2⟩ := k2
  refine kn_mk S c_L_tree (fun vs H Q E h => ?_) (fun _ _ _ _ _ _ us hl => match us, hl with | [_, _], _ => rfl) (fun f cdv A outer s H vs Q E hr h => ?_)
  · obtain ⟨a, b, ns, k, rfl, _⟩ := h
    rfl
  · obtain ⟨a, b, ns, k, rfl, hL, hk, hab, hN, hnd, h1, h10, hpos, q⟩ := h
    obtain ⟨B, hB⟩ := bound ns
    have hr2 := hr.mono (by decide : 2 ≤ 3)
    refine ⟨_, pss_cons (ps_set (i := 2) c_L_tree.nd rfl (Or.inl rfl) (pe_call G2 hr (by rfl) g2 e2 b2 .nil pass0 (pa_cons (pv 0) (pa_cons (pv 1) pa_nil))))
      (pss_cons (ps_set (i := 3) c_L_tree.nd rfl (Or.inl rfl) (pe_call G1 hr2 (by rfl) g1 e1 b1 .nil pass0 (pa_cons (pv 0) (pa_cons pe_int pa_nil))))
      (pss_cons (ps_set (i := 4) c_L_tree.nd rfl (Or.inl rfl) (pe_lst pa_nil))
      (pss_cons (ps_for PassesOwn.never rfl (pi_range2 (by rfl) T.range (pa_cons pe_int (pa_cons (pe_callB call_len_seq (by rfl) T.len PySem.boot_len (pa_cons (pv 2) pa_nil)) pa_nil))) (pg_name (i := 5) c_L_tree.nd rfl (Or.inl rfl))
        (pss_cons (ps_set (i := 6) c_L_tree.nd rfl (Or.inl rfl) (pe_ix ix_list (pv 2) (pe_ix ix_list (pe_lst (pa_cons (pe_call G1 hr2 (by rfl) g1 e1 b1 .nil pass0 (pa_cons (pv 0) (pa_cons (pv 5) pa_nil))) (pa_cons (pe_op op_sub (pv 5) pe_int) (pa_cons pe_int pa_nil)))) (pv 3) (fun _ _ => rfl)) (fun _ _ => rfl)))
        (pss_one (ps_expr (pe_bm PySem.F.plainAttrs_list PySem.F.slot_list_append PySem.F.type_list_append mt_append (pv 4) (pa_cons (pe_tup
          (pa_cons (pe_callB (call_min2 rfl) (by rfl) T.min (by decide +kernel) (pa_cons (pe_ix ix_list (pv 2) (pv 5) (fun _ _ => rfl)) (pa_cons (pv 6) pa_nil)))
          (pa_cons (pe_callB (call_max2 rfl) (by rfl) T.max (by decide +kernel) (pa_cons (pe_ix ix_list (pv 2) (pv 5) (fun _ _ => rfl)) (pa_cons (pv 6) pa_nil))) pa_nil))) pa_nil))))))
      (pss_one (ps_ret (pe_callB (cr_sortT (d := 2) (B := B) (by decide)) (by rfl) T.sorted boot_sorted (pa_cons (pv 4) pa_nil))))))), ?_⟩
    refine ⟨_, rfl, _, rfl, a, b, ns, k, rfl, hL, by omega, hab, hN, h10, fun H1 po order x1 hL1 npo noa hO perm => ?_⟩
    have ond : order.Nodup := perm.nodup_iff.mpr hnd
    have olen := perm.length_eq
    refine ⟨_, rfl, a, 3, k + 10, rfl, hL1, by omega, by decide, by decide, fun way H2 w0 w3 x2 hL2 => ?_⟩
    have hO2 := x2 _ _ noa hO
    refine ⟨Nat.zero_le _, fun pf nf => ?_⟩
    have s3 : Same H2 (upd H2 pf (.lst [])) := same_upd nf
    have nfa := hL2.some nf
    have nfo : po ≠ pf := ne_of_none hO2 nf
    have x12 := x1.trans x2
    have npf := sameX_free x12 nf nfa
    refine ⟨_, rfl, po, _, rfl, .inl (SqL.of (s3 _ _ hO2)), 1, _, rfl, ⟨by decide, by decide, by rw [ints_len]; omega, by rw [ints_len]; omega⟩, for_range (lo := 1) (n := ((((order.map V.int).length : Nat) : Int) - 1).toNat)
      (fun i σ H' => ∃ (o5 o6 : Option V) (E : List Tie) (ws : List V), σ = [some (.ref a), some (.ref b), some (.ref po), some (.int way), some (.ref pf), o5, o6] ∧ SameX a H H' ∧ Lf H' a (k + 11 + i) ∧ LI H' po order ∧ H' pf = some (.lst ws) ∧ Paired (isTieX a pf H') ws E ∧ Hung order (i + 1) E)
      ⟨none, none, [], [], rfl, x12.trans (same_toX s3), (hL2.same s3).mono (by omega), s3 _ _ hO2, upd_same, .nil, hung_one (by omega)⟩ (fun i σ H4 hi hP => ?_) (fun σ H4 hP => ?_)⟩
    · obtain ⟨o5, o6, E, ws, rfl, x4, hL4, hO4, hw, hE, hH⟩ := hP
      rw [ints_len] at hi
      have hi : i + 1 < order.length := by omega
      have hwl := paired_len hE
      have hEl := hH.len
      refine ⟨_, rfl, _, rfl, _, rfl, a, _, k + 11 + i, rfl, hL4, by omega, by omega, by omega, fun r H5 r0 r1 x5 hL5 => ?_⟩
      refine ⟨_, rfl, _, _, rfl, rfl, (by show 3 ≤ sizeLine; decide), fun p6 n6 => ?_⟩
      have s6 : Same H5 (upd H5 p6 (.lst [.int r, .int (1 + (i : Int) - 1), .int 0])) := same_upd n6
      obtain ⟨v, hv, hmem⟩ := at_int (xs := [V.int r, V.int (1 + (i : Int) - 1), V.int 0]) w0 w3
      obtain ⟨j, rfl, j0, j1⟩ : ∃ j : Int, v = .int j ∧ 0 ≤ j ∧ j < 1 + (i : Int) := by
        simp only [List.mem_cons, List.not_mem_nil, or_false] at hmem
        rcases hmem with e | e | e
        · exact ⟨_, e, r0, r1⟩
        · exact ⟨_, e, by omega, by omega⟩
        · exact ⟨_, e, by omega, by omega⟩
      have hO5 := s6 _ _ (x5 _ _ noa hO4)
      have hw5 := s6 _ _ (x5 _ _ nfa hw)
      have hE5 := paired_mono (fun _ _ r => tieX_x (same_toX s6) (tieX_x x5 r)) hE
      have hL6 := hL5.same s6
      have x6 := x4.trans (x5.trans (same_toX s6))
      refine ⟨_, rfl, p6, _, way, _, rfl, rfl, SqL.of upd_same, hv, ?_⟩
      generalize upd H5 p6 (.lst [.int r, .int (1 + (i : Int) - 1), .int 0]) = H6 at *
      obtain ⟨vo, hvo, hvo'⟩ := at_int' (xs := order.map V.int) j0 (by rw [ints_len]; omega)
      rw [List.getElem?_map] at hvo'
      obtain ⟨o, ho, rfl⟩ := Option.map_eq_some_iff.mp hvo'
      refine ⟨po, _, j, .int o, rfl, rfl, SqL.of hO5, hvo, ?_⟩
      have hk1 : order[i + 1]? = some order[i + 1] := List.getElem?_eq_getElem hi
      have hat : atI (order.map V.int) (1 + (i : Int)) = some (.int order[i + 1]) := by
        rw [show (1 + (i : Int)) = ((i + 1 : Nat) : Int) by omega]
        exact atI_nat (by rw [List.getElem?_map, hk1]; rfl)
      refine ⟨_, rfl, .inl ⟨rfl, _, SqL.of hw5⟩, _, rfl, _, rfl, po, _, _, _, rfl, rfl, SqL.of hO5, hat, _, rfl, _, _, rfl, _, rfl, _, rfl, po, _, _, _, rfl, rfl, SqL.of hO5, hat, _, rfl, _, _, rfl, (by show 2 ≤ sizeLine; decide), fun pt nt => ?_⟩
      have e1 : (if o < order[i + 1] then o else order[i + 1]) = (tie order[i + 1] o).1 := by
        show _ = min order[i + 1] o
        split <;> omega
      have e2 : (if o > order[i + 1] then o else order[i + 1]) = (tie order[i + 1] o).2 := by
        show _ = max order[i + 1] o
        split <;> omega
      rw [e1, e2]
      have s7 : Same H6 (upd H6 pt (.tup [.int (tie order[i + 1] o).1, .int (tie order[i + 1] o).2])) := same_upd nt
      have ntf : pt ≠ pf := (ne_of_none hw5 nt).symm
      have nta := hL6.some nt
      have ht : upd H6 pt (.tup [.int (tie order[i + 1] o).1, .int (tie order[i + 1] o).2]) pt = some (.tup [.int (tie order[i + 1] o).1, .int (tie order[i + 1] o).2]) := upd_same
      have hL7 := hL6.same s7
      generalize upd H6 pt (.tup [.int (tie order[i + 1] o).1, .int (tie order[i + 1] o).2]) = H7 at *
      refine ⟨pf, _, _, rfl, rfl, s7 _ _ hw5, Nat.lt_of_le_of_lt (show ws.length ≤ 1000 by omega) (by decide), ?_⟩
      refine ⟨_, _, E ++ [tie order[i + 1] o], ws ++ [.ref pt], rfl, sameX_put (x6.trans (same_toX s7)) npf, (hL7.mono (by omega)).upd nfa.symm, by rw [LI, upd_ne nfo]; exact s7 _ _ hO5, upd_same, ?_, ?_⟩
      · refine paired_app (paired_mono (fun _ _ r => tieX_upd (tieX_x (same_toX s7) r)) hE5) (.cons ⟨pt, rfl, nta, ntf, by rw [upd_ne ntf]; exact ht⟩ .nil)
      · exact hung_step ond hH hi (j := j.toNat) (by omega) hk1 ho
    · obtain ⟨o5, o6, E, ws, rfl, x4, hL4, hO4, hw, hE, hH⟩ := hP
      have en : (((((order.map V.int).length : Nat) : Int) - 1).toNat + 1) = order.length := by
        rw [ints_len]
        omega
      rw [en] at hH
      have ok := hH.ok
      rw [List.take_length] at ok
      have hBd : ∀ t ∈ E, TS.Bd B (tl t) := fun t ht m hm => by
        obtain ⟨_, u1, u2⟩ := ok t ht
        have u1 := perm.mem_iff.mp u1
        have u2 := perm.mem_iff.mp u2
        rcases List.mem_cons.mp hm with e | hm
        · rw [e]
          exact ⟨hpos _ u1, hB _ u1⟩
        · rw [List.mem_singleton.mp hm]
          exact ⟨hpos _ u2, hB _ u2⟩
      have hwl := paired_len hE
      have hEl := hH.len
      have hE' := paired_mono (fun _ _ r => tieX_tie r) hE
      refine ⟨_, rfl, pf, ws, rfl, SqL.of hw, by omega, ties_tupI hE' hBd, fun ys ps perm2 pw nps => ?_⟩
      have s5 : Same H4 (upd H4 ps (.lst ys)) := same_upd nps
      have nsa := hL4.some nps
      have hL5 := hL4.same s5
      have hTr := hung_tree hnd h1 (fun x => perm.mem_iff) olen hH
      refine q _ ps (sortT E) (x4.trans (same_toX s5)) (hL5.mono (by rw [ints_len]; omega)) nsa (fun H2 z => ?_) hTr
      -- the ties stand wherever all but a stands
      have t0 := sorted_ties hE' hH.nd hBd perm2 pw s5 upd_same
      obtain ⟨pp, vs, e, hh, pr⟩ := t0
      cases e
      have hh' := hh
      rw [upd_same] at hh'
      cases hh'
      have up := paired_up pr fun y hy => by
        obtain ⟨t, _, r⟩ := paired_mem hE (perm2.mem_iff.mp hy)
        exact ⟨t, tieX_x (same_toX s5) r⟩
      exact ⟨ps, ys, rfl, z _ _ nsa hh, paired_mono (fun _ _ r => tieX_tie (tieX_x z r)) up⟩
end
end K74
namespace K74
open PySem PySem.Spec PyProof.Rows L2
theorem ne_bl {c d : Bool} : (!decide (V.bl c = V.bl d)) = !decide (c = d) := by
  cases c <;> cases d <;> decide
section
variable {P : Program} {w : World} {K : PySem.W.Frag} {mg : Str → Option Value} {base : Heap}
def spFall : Sp := fun vs H Q _ => ∃ (a b : Addr) (vt : V) (ns : List Int) (E : List Tie) (k : Nat), vs = [.ref a, .ref b, vt] ∧ Lf H a k ∧ k ≤ 50000 ∧ a ≠ b ∧ LI H b ns ∧ ns.Nodup ∧ 1 ≤ ns.length ∧ ns.length ≤ 10 ∧ (∀ H2, SameX a H H2 → isTies H2 vt E) ∧ isTree ns E = true ∧
  ∀ H' p r, SameX a H H' → Lf H' a (k + 10) → H p = none → p ≠ a → LI H' p r → r.Nodup → (∀ x, x ∈ r ↔ x ∈ ns) → Q (.ref p) H'
theorem kn_falling (S : Std K mg "_law_falling" s_L_falling) (T : Txt mg) (k1 : Kn P w K mg base 2 "_law_draw" p_L_draw spDraw) : Kn P w K mg base 3 "_law_falling" p_L_falling spFall := by
  obtain ⟨f1, fd1, G1, b1, g1, e1⟩ := k1
  refine kn_mk S c_L_falling (fun vs H Q E h => ?_) (fun _ _ _ _ _ _ us hl => match us, hl with | [_, _, _], _ => rfl) (fun f cdv A outer s H vs Q E hr h => ?_)
  · obtain ⟨a, b, vt, ns, E, k, rfl, _⟩ := h
    rfl
  · obtain ⟨a, b, vt, ns, E, k, rfl, hL, hk, hab, hN, hnd, h1, h10, hE, hTr, q⟩ := h
    refine ⟨_, pss_cons (ps_set (i := 3) c_L_falling.nd rfl (Or.inl rfl) (pe_lst (pa_cons (pe_ix ix_list (pv 1) (pe_call G1 hr (by rfl) g1 e1 b1 .nil pass0 (pa_cons (pv 0) (pa_cons (pe_callB call_len_seq (by rfl) T.len PySem.boot_len (pa_cons (pv 1) pa_nil)) pa_nil))) (fun _ _ => rfl)) pa_nil)))
      (pss_cons (ps_while PassesOwn.never (pt_cmpR op_lt (pe_callB call_len_seq (by rfl) T.len PySem.boot_len (pa_cons (pv 3) pa_nil)) (pe_callB call_len_seq (by rfl) T.len PySem.boot_len (pa_cons (pv 1) pa_nil)) (nomark _))
        (pss_cons (ps_set (i := 4) c_L_falling.nd rfl (Or.inl rfl) (pe_lst pa_nil))
        (pss_cons (ps_for PassesOwn.never rfl (pi_list (pv 2)) (pg_tup rfl (pgs_cons (pg_name (i := 5) c_L_falling.nd rfl (Or.inl rfl)) (pgs_cons (pg_name (i := 6) c_L_falling.nd rfl (Or.inl rfl)) pgs_nil)))
          (pss_one (ps_if (pt_cmpR op_ne (pe_cmpR op_in_seq (pv 5) (pv 3) (by rfl)) (pe_cmpR op_in_seq (pv 6) (pv 3) (by rfl)) (nomark _))
            (pss_one (ps_expr (pe_bm PySem.F.plainAttrs_list PySem.F.slot_list_append PySem.F.type_list_append mt_append (pv 4) (pa_cons
              (pe_ix ix_list (pe_lst (pa_cons (pv 5) (pa_cons (pv 6) pa_nil))) (pe_callTy call_int1 (by rfl) T.int boot_int (pa_cons (pe_cmpR op_in_seq (pv 5) (pv 3) (by rfl)) pa_nil)) (fun _ _ => rfl)) pa_nil)))) pss_nil)))
        (pss_one (ps_expr (pe_bm PySem.F.plainAttrs_list PySem.F.slot_list_append PySem.F.type_list_append mt_append (pv 3) (pa_cons
          (pe_ix ix_list (pv 4) (pe_call G1 hr (by rfl) g1 e1 b1 .nil pass0 (pa_cons (pv 0) (pa_cons (pe_callB call_len_seq (by rfl) T.len PySem.boot_len (pa_cons (pv 4) pa_nil)) pa_nil))) (fun _ _ => rfl)) pa_nil)))))))
      (pss_one (ps_ret (pv 3)))), ?_⟩
    obtain ⟨t1, t2, t3, t4⟩ := isTree_out hTr
    have hC := t4 hnd h1
    -- found = [names[draw]]
    refine ⟨_, rfl, _, rfl, _, rfl, b, _, rfl, .inl (SqL.of hN), a, _, k, rfl, hL, by omega, by rw [ints_len]; omega, by rw [ints_len]; omega, fun r H1 r0 r1 x1 hL1 => ?_⟩
    obtain ⟨v, hv, hv'⟩ := at_int' (xs := ns.map V.int) r0 r1
    rw [List.getElem?_map] at hv'
    obtain ⟨n0, hn0, rfl⟩ := Option.map_eq_some_iff.mp hv'
    refine ⟨b, _, r, _, rfl, rfl, SqL.of (x1 _ _ hab.symm hN), hv, (by show 1 ≤ sizeLine; decide), fun pf nf => ?_⟩
    have s2 : Same H1 (upd H1 pf (.lst [.int n0])) := same_upd nf
    have nfa := hL1.some nf
    have npf := sameX_free x1 nf nfa
    refine ⟨fun m σ H' => ∃ (o4 o5 o6 : Option V) (fs : List Int), σ = [some (.ref a), some (.ref b), some vt, some (.ref pf), o4, o5, o6] ∧ SameX a H H' ∧ Lf H' a (k + fs.length) ∧ LI H' pf fs ∧ fs.Nodup ∧ (∀ x ∈ fs, x ∈ ns) ∧ 1 ≤ fs.length ∧ m + fs.length = ns.length,
      ⟨ns.length - 1, none, none, none, [n0], rfl, x1.trans (same_toX s2), hL1.same s2, upd_same, by simp, fun x hx => by rw [List.mem_singleton.mp hx]; exact List.mem_of_getElem? hn0, Nat.le_refl _, by rw [List.length_singleton]; omega⟩, fun m σ H3 hW => ?_⟩
    obtain ⟨o4, o5, o6, fs, rfl, x3, hL3, hf, fnd, fsub, fl1, hm⟩ := hW
    have hN3 := x3 _ _ hab.symm hN
    refine ⟨_, rfl, pf, _, rfl, .inl (SqL.of hf), _, rfl, b, _, rfl, .inl (SqL.of hN3), _, _, rfl, rfl, _, rfl, ite2 (fun hlt => ?_) (fun hge => ?_)⟩
    · have hlt := of_decide_eq_true hlt
      rw [ints_len, ints_len] at hlt
      refine ⟨fun σ' H' => ∃ m', m' < m ∧ ∃ (o4 o5 o6 : Option V) (fs : List Int), σ' = [some (.ref a), some (.ref b), some vt, some (.ref pf), o4, o5, o6] ∧ SameX a H H' ∧ Lf H' a (k + fs.length) ∧ LI H' pf fs ∧ fs.Nodup ∧ (∀ x ∈ fs, x ∈ ns) ∧ 1 ≤ fs.length ∧ m' + fs.length = ns.length, fun _ _ h => h, ?_⟩
      -- near = []
      refine ⟨Nat.zero_le _, fun pn nn => ?_⟩
      have s4 : Same H3 (upd H3 pn (.lst [])) := same_upd nn
      have nna := hL3.some nn
      have npn := sameX_free x3 nn nna
      have nfn : pf ≠ pn := ne_of_none hf nn
      have x4 := x3.trans (same_toX s4)
      have hL4 := hL3.same s4
      have hf4 := s4 _ _ hf
      have hn4 : upd H3 pn (.lst []) pn = some (.lst ([] : List V)) := upd_same
      generalize upd H3 pn (.lst []) = H4 at *
      obtain ⟨pt, ts, rfl, hpt, hts⟩ := hE H4 x4
      have hptn : pt ≠ pn := fun z => by
        obtain ⟨pt', ts', e, hp', _⟩ := hE H (SameX.refl _ _)
        cases e
        rw [z, npn] at hp'
        cases hp'
      have htl := paired_len hts
      refine ⟨_, rfl, pt, rfl, ⟨_, SqL.of hpt⟩, for_rel (R := isTie) (xs := E) htl (fun i σ H' => ∃ (o5 o6 : Option V), σ = [some (.ref a), some (.ref b), some (.ref pt), some (.ref pf), some (.ref pn), o5, o6] ∧ SameX a H H' ∧ Lf H' a (k + fs.length) ∧ LI H' pf fs ∧ LI H' pn (nearOf fs (E.take i)) ∧ H' pt = some (.lst ts))
        ⟨_, _, rfl, x4, hL4, hf4, hn4, hpt⟩ (fun i σ H' ⟨_, _, _, x, _, _, _, hpt'⟩ => by
          obtain ⟨pt', ts', e, hp', hq'⟩ := hE H' x
          cases e
          rw [hpt'] at hp'
          cases hp'
          exact ⟨hpt', hq'⟩) (fun i t v σ H5 ht hi rt hP => ?_) (fun σ H5 hP => ?_)⟩
      · obtain ⟨o5, o6, rfl, x5, hL5, hf5, hn5, hpt5⟩ := hP
        obtain ⟨tp, rfl, htp⟩ := rt
        rw [nearOf_take ht]
        have hnl := nearOf_len (f := fs) (E.take i)
        rw [List.length_take] at hnl
        refine ⟨tp, [.int t.1, .int t.2], rfl, SqT.of htp, rfl, .int t.1, [.int t.2], rfl, .int t.2, [], rfl, rfl, ?_⟩
        refine ⟨_, rfl, _, rfl, r_in hf5 ⟨_, rfl, _, rfl, r_in hf5 ⟨rfl, _, rfl, ?_⟩⟩⟩
        rw [ne_bl]
        refine ite2 (fun h3 => ?_) (fun h3 => ?_)
        · have h3 : ¬ decide (t.1 ∈ fs) = decide (t.2 ∈ fs) := fun z => by
            rw [z] at h3
            simp at h3
          have e1 : nearOf fs [t] = [if t.1 ∈ fs then t.2 else t.1] := by
            unfold nearOf
            rw [if_neg h3]
            rfl
          rw [e1]
          refine ⟨_, rfl, .inl ⟨rfl, _, SqL.of hn5⟩, _, rfl, _, rfl, (by show 2 ≤ sizeLine; decide), fun p6 n6 => ?_⟩
          have s6 : Same H5 (upd H5 p6 (.lst [.int t.1, .int t.2])) := same_upd n6
          have hf6 := s6 _ _ hf5
          have hn6 := s6 _ _ hn5
          have hp6 : upd H5 p6 (.lst [.int t.1, .int t.2]) p6 = some (.lst [.int t.1, .int t.2]) := upd_same
          have hL6 := hL5.same s6
          have x6 := x5.trans (same_toX s6)
          have hpt6 := s6 _ _ hpt5
          generalize upd H5 p6 (.lst [.int t.1, .int t.2]) = H6 at *
          refine ⟨_, rfl, _, rfl, r_in hf6 (.inr ⟨_, rfl, p6, _, _, .int (if t.1 ∈ fs then t.2 else t.1), rfl, rfl, SqL.of hp6, ?_, ?_⟩)⟩
          · by_cases z : t.1 ∈ fs
            · rw [if_pos z, if_pos (decide_eq_true z)]
              exact atI_nat (j := 1) rfl
            · rw [if_neg z, if_neg (fun y => z (of_decide_eq_true y))]
              exact atI_nat (j := 0) rfl
          · refine ⟨pn, _, _, rfl, rfl, hn6, Nat.lt_of_le_of_lt (show ((nearOf fs (E.take i)).map V.int).length ≤ 1000 by rw [ints_len]; omega) (by decide), ?_⟩
            refine ⟨_, _, rfl, sameX_put x6 npn, hL6.upd nna.symm, by rw [LI, upd_ne nfn]; exact hf6, ?_, by rw [upd_ne hptn]; exact hpt6⟩
            show upd H6 pn _ pn = _
            rw [upd_same, List.map_append]
            rfl
        · have h3 : decide (t.1 ∈ fs) = decide (t.2 ∈ fs) := by
            cases z : decide (decide (t.1 ∈ fs) = decide (t.2 ∈ fs)) with
            | true => exact of_decide_eq_true z
            | false => rw [z] at h3; exact absurd rfl h3
          have e1 : nearOf fs [t] = [] := by
            unfold nearOf
            rw [if_pos h3]
            rfl
          rw [e1, List.append_nil]
          exact ⟨_, _, rfl, x5, hL5, hf5, hn5, hpt5⟩
      · obtain ⟨o5, o6, rfl, x5, hL5, hf5, hn5, hpt5⟩ := hP
        rw [List.take_length] at hn5
        obtain ⟨a0, ha0⟩ : ∃ a0, a0 ∈ fs := List.exists_mem_of_length_pos (by omega)
        have hne := near_some hC fsub fnd ha0 (by omega) hnd
        have hnl := nearOf_len (f := fs) E
        have hnp : 1 ≤ (nearOf fs E).length := List.length_pos_iff.mpr hne
        refine ⟨_, rfl, .inl ⟨rfl, _, SqL.of hf5⟩, _, rfl, _, rfl, _, rfl, pn, _, rfl, .inl (SqL.of hn5), a, _, k + fs.length, rfl, hL5, by omega, by rw [ints_len]; omega, by rw [ints_len]; omega, fun r2 H6 r20 r21 x6 hL6 => ?_⟩
        obtain ⟨v, hv, hv'⟩ := at_int' (xs := (nearOf fs E).map V.int) r20 r21
        rw [List.getElem?_map] at hv'
        obtain ⟨x, hx, rfl⟩ := Option.map_eq_some_iff.mp hv'
        have hn6 := x6 _ _ nna hn5
        have hf6 := x6 _ _ nfa hf5
        obtain ⟨gn, gs⟩ := grown (fun t ht => (t2 t ht).2) fsub fnd (List.mem_of_getElem? hx)
        refine ⟨pn, _, r2, _, rfl, rfl, SqL.of hn6, hv, pf, _, _, rfl, rfl, hf6, Nat.lt_of_le_of_lt (show (fs.map V.int).length ≤ 1000 by rw [ints_len]; omega) (by decide), ?_⟩
        refine ⟨m - 1, by omega, _, _, _, fs ++ [x], rfl, sameX_put (x5.trans x6) npf, (hL6.mono (by rw [List.length_append, List.length_singleton]; omega)).upd nfa.symm, ?_, gn, gs, by rw [List.length_append]; omega, by rw [List.length_append, List.length_singleton]; omega⟩
        show upd H6 pf _ pf = _
        rw [upd_same, List.map_append]
        rfl
    · have hge : ¬ ((fs.length : Int) < ns.length) := fun z => hge (decide_eq_true (by rw [ints_len, ints_len]; exact z))
      have full := nodup_full fnd fsub (by omega)
      exact ⟨_, rfl, q H3 pf fs x3 (hL3.mono (by omega)) npf nfa hf fnd fun x => ⟨fsub x, full x⟩⟩
end
end K74
namespace K74
open PySem PySem.Spec PyProof.Rows L2
theorem ixN_of {n j : Nat} {i : Int} (h : j < n) (e : i = (j : Int)) : ixN n i = some j := by
  unfold ixN
  rw [if_pos (by omega), if_pos (by omega), e]
  simp
theorem swap_perm {α : Type} : ∀ {r : List α} {i : Nat} {x y : α}, r[i]? = some x → r[i + 1]? = some y → ((r.set i y).set (i + 1) x).Perm r
  | [], _, _, _, h, _ => by simp at h
  | [_], 0, _, _, _, h => by simp at h
  | u :: v :: l, 0, x, y, h1, h2 => by
    have e1 : u = x := Option.some.inj h1
    have e2 : v = y := Option.some.inj h2
    rw [e1, e2]
    exact List.Perm.swap x y l
  | u :: l, i + 1, x, y, h1, h2 => by
    show (u :: ((l.set i y).set (i + 1) x)).Perm (u :: l)
    exact (swap_perm (r := l) (i := i) h1 h2).cons u
/-- a ranking of these names -/
def Good1 (ns r : List Int) : Prop := r.Nodup ∧ ∀ x, x ∈ r ↔ x ∈ ns
theorem Good1.perm {ns r r' : List Int} (g : Good1 ns r) (p : r'.Perm r) : Good1 ns r' := ⟨p.nodup_iff.mpr g.1, fun x => p.mem_iff.trans (g.2 x)⟩
theorem Good1.len {ns r : List Int} (g : Good1 ns r) (hn : ns.Nodup) : r.length = ns.length := Nat.le_antisymm (nodup_sub_len g.1 fun x hx => (g.2 x).mp hx) (nodup_sub_len hn fun x hx => (g.2 x).mpr hx)
/-- a ranking whose list is neither at a nor at b -/
def isRkX (ns : List Int) (a b : Addr) : Rel (List Int) := fun H v r => ∃ c, v = .ref c ∧ c ≠ a ∧ c ≠ b ∧ LI H c r ∧ Good1 ns r
theorem rkX_x {ns : List Int} {a b : Addr} {H H' : Hp} (s : SameX a H H') {v : V} {r : List Int} (h : isRkX ns a b H v r) : isRkX ns a b H' v r := by
  obtain ⟨c, e, na, nb, h, g⟩ := h
  exact ⟨c, e, na, nb, s c _ na h, g⟩
theorem rkX_upd {ns : List Int} {a b : Addr} {H : Hp} {o : HO} {v : V} {r : List Int} (h : isRkX ns a b H v r) : isRkX ns a b (upd H b o) v r := by
  obtain ⟨c, e, na, nb, h, g⟩ := h
  exact ⟨c, e, na, nb, by rw [LI, upd_ne nb]; exact h, g⟩
theorem rkX_rk {ns : List Int} {a b : Addr} {H : Hp} {v : V} {r : List Int} (h : isRkX ns a b H v r) : isLst isInt H v r := by
  obtain ⟨c, e, na, nb, h, g⟩ := h
  rw [e]
  exact lst_int h
section
variable {P : Program} {w : World} {K : PySem.W.Frag} {mg : Str → Option Value} {base : Heap}
def spLFolk : Sp := fun vs H Q _ => ∃ (a b : Addr) (vt : V) (ns : List Int) (E : List Tie) (k : Nat), vs = [.ref a, .ref b, vt] ∧ Lf H a k ∧ k ≤ 20000 ∧ a ≠ b ∧ LI H b ns ∧ ns.Nodup ∧ 1 ≤ ns.length ∧ ns.length ≤ 10 ∧ (∀ H2, SameX a H H2 → isTies H2 vt E) ∧ isTree ns E = true ∧
  ∀ H' p rs, SameX a H H' → Lf H' a (k + 1000) → p ≠ a → (∀ H2, SameX a H' H2 → isFolk H2 (.ref p) rs) → 1 ≤ rs.length → rs.length ≤ 20 → (∀ r ∈ rs, Good1 ns r) → Q (.ref p) H'
theorem kn_lfolk (S : Std K mg "_law_folk" s_L_folk) (T : Txt mg) (k1 : Kn P w K mg base 2 "_law_draw" p_L_draw spDraw) (k2 : Kn P w K mg base 3 "_law_shuffled" p_L_shuffled spShuf) (k3 : Kn P w K mg base 3 "_law_falling" p_L_falling spFall) : Kn P w K mg base 4 "_law_folk" p_L_folk spLFolk := by
  obtain ⟨f1, fd1, G1, b1, g1, e1⟩ := k1
  obtain ⟨f2, fd2, G2, b2, g2, e2⟩ := k2
  obtain ⟨f3, fd3, G3, b3, g3, e3⟩ := k3
  refine kn_mk S c_L_folk (fun vs H Q E h => ?_) (fun _ _ _ _ _ _ us hl => match us, hl with | [_, _, _], _ => rfl) (fun f cdv A outer s H vs Q E hr h => ?_)
  · obtain ⟨a, b, vt, ns, E, k, rfl, _⟩ := h
    rfl
  · obtain ⟨a, b, vt, ns, E, k, rfl, hL, hk, hab, hN, hnd, h1, h10, hE, hTr, q⟩ := h
    have hr2 := hr.mono (by decide : 2 ≤ 3)
    refine ⟨_, pss_cons (ps_set (i := 3) c_L_folk.nd rfl (Or.inl rfl) (pe_call G1 hr2 (by rfl) g1 e1 b1 .nil pass0 (pa_cons (pv 0) (pa_cons pe_int pa_nil))))
      (pss_cons (ps_set (i := 4) c_L_folk.nd rfl (Or.inl rfl) (pe_lst pa_nil))
      (pss_cons (ps_for PassesOwn.never rfl (pi_range1 (by rfl) T.range (pa_cons (pe_op op_add pe_int (pe_call G1 hr2 (by rfl) g1 e1 b1 .nil pass0 (pa_cons (pv 0) (pa_cons
            (pe_ix ix_list (pe_lst (pa_cons pe_int (pa_cons pe_int (pa_cons pe_int pa_nil)))) (pe_call G1 hr2 (by rfl) g1 e1 b1 .nil pass0 (pa_cons (pv 0) (pa_cons pe_int pa_nil))) (fun _ _ => rfl)) pa_nil)))) pa_nil)) (pg_name (i := 5) c_L_folk.nd rfl (Or.inl rfl))
        (pss_cons (ps_set (i := 6) c_L_folk.nd rfl (Or.inl rfl) (pe_call G3 hr (by rfl) g3 e3 b3 .nil pass0 (pa_cons (pv 0) (pa_cons (pv 1) (pa_cons (pv 2) pa_nil)))))
        (C8.pss_cut (ps_if (PW.pt (pw_and (pt_cmpR op_eq (pv 3) pe_int (nomark _)) (pw_and (pt_cmpR op_gt (pe_callB call_len_seq (by rfl) T.len PySem.boot_len (pa_cons (pv 1) pa_nil)) pe_int (nomark _))
              (pw_and1 (pt_cmpR op_eq (pe_call G1 hr2 (by rfl) g1 e1 b1 .nil pass0 (pa_cons (pv 0) (pa_cons pe_int pa_nil))) pe_int (nomark _))))))
            (pss_cons (ps_set (i := 7) c_L_folk.nd rfl (Or.inl rfl) (pe_call G1 hr2 (by rfl) g1 e1 b1 .nil pass0 (pa_cons (pv 0) (pa_cons (pe_op op_sub (pe_callB call_len_seq (by rfl) T.len PySem.boot_len (pa_cons (pv 1) pa_nil)) pe_int) pa_nil))))
            (pss_one (ps_asg (pe_tup (pa_cons (pe_ix ix_list (pv 6) (pe_op op_add (pv 7) pe_int) (fun _ _ => rfl)) (pa_cons (pe_ix ix_list (pv 6) (pv 7) (fun _ _ => rfl)) pa_nil)))
              (pg_tup rfl (pgs_cons (pg_sub (pv 6) (pv 7) set_list) (pgs_cons (pg_sub (pv 6) (pe_op op_add (pv 7) pe_int) set_list) pgs_nil)))))) pss_nil)
        (C8.pss_cut (ps_if (pt_cmpR op_eq (pv 3) pe_int (nomark _)) (pss_one (ps_set (i := 6) c_L_folk.nd rfl (Or.inl rfl) (pe_call G2 hr (by rfl) g2 e2 b2 .nil pass0 (pa_cons (pv 0) (pa_cons (pv 1) pa_nil))))) pss_nil)
        (C8.pss_cut (ps_if (PW.pt (pw_and (pt_cmpR (op_neD hr.units) (pv 4) (pe_lst pa_nil) (nomark _)) (pw_and1 (pt_cmpR op_eq (pe_call G1 hr2 (by rfl) g1 e1 b1 .nil pass0 (pa_cons (pv 0) (pa_cons pe_int pa_nil))) pe_int (nomark _)))))
            (pss_one (ps_set (i := 6) c_L_folk.nd rfl (Or.inl rfl) (pe_callTy call_list_of (by rfl) T.list boot_list (pa_cons (pe_ix ix_list (pv 4) (pe_call G1 hr2 (by rfl) g1 e1 b1 .nil pass0 (pa_cons (pv 0) (pa_cons (pe_callB call_len_seq (by rfl) T.len PySem.boot_len (pa_cons (pv 4) pa_nil)) pa_nil))) (fun _ _ => rfl)) pa_nil)))) pss_nil)
        (pss_one (ps_expr (pe_bm PySem.F.plainAttrs_list PySem.F.slot_list_append PySem.F.type_list_append mt_append (pv 4) (pa_cons (pv 6) pa_nil)))))))))
      (pss_one (ps_ret (pv 4))))), ?_⟩
    refine ⟨_, rfl, a, 4, k, rfl, hL, by omega, by decide, by decide, fun way H1 w0 w4 x1 hL1 => ?_⟩
    refine ⟨Nat.zero_le _, fun pf nf => ?_⟩
    have s2 : Same H1 (upd H1 pf (.lst [])) := same_upd nf
    have nfa := hL1.some nf
    have npf := sameX_free x1 nf nfa
    have hf2 : upd H1 pf (.lst []) pf = some (.lst ([] : List V)) := upd_same
    have x2 := x1.trans (same_toX s2)
    have hL2 := hL1.same s2
    generalize upd H1 pf (.lst []) = H2 at *
    -- how many
    refine ⟨_, rfl, (by show 3 ≤ sizeLine; decide), fun p3 n3 => ?_⟩
    have s3 : Same H2 (upd H2 p3 (.lst [.int 3, .int 6, .int 20])) := same_upd n3
    have hp3 : upd H2 p3 (.lst [.int 3, .int 6, .int 20]) p3 = some (.lst [.int 3, .int 6, .int 20]) := upd_same
    have n3a := hL2.some n3
    have hf3 := s3 _ _ hf2
    have x3 := x2.trans (same_toX s3)
    have hL3 := hL2.same s3
    generalize upd H2 p3 (.lst [.int 3, .int 6, .int 20]) = H3 at *
    refine ⟨_, rfl, a, 3, k + 1, rfl, hL3, by omega, by decide, by decide, fun r4 H4 r40 r43 x4 hL4 => ?_⟩
    obtain ⟨v, hv, hmem⟩ := at_int (xs := [V.int 3, V.int 6, V.int 20]) r40 r43
    obtain ⟨m, rfl, m1, m20⟩ : ∃ m : Int, v = .int m ∧ 1 ≤ m ∧ m ≤ 20 := by
      simp only [List.mem_cons, List.not_mem_nil, or_false] at hmem
      rcases hmem with e | e | e
      · exact ⟨_, e, by decide, by decide⟩
      · exact ⟨_, e, by decide, by decide⟩
      · exact ⟨_, e, by decide, by decide⟩
    refine ⟨p3, _, r4, _, rfl, rfl, SqL.of (x4 _ _ n3a hp3), hv, a, m, k + 2, rfl, hL4, by omega, m1, by omega, fun r5 H5 r50 r5m x5 hL5 => ?_⟩
    have hf5 := x5 _ _ nfa (x4 _ _ nfa hf3)
    have x15 := x3.trans (x4.trans x5)
    refine ⟨_, _, rfl, rfl, _, rfl, by omega, by omega, for_range (lo := 0) (n := (1 + r5).toNat) (fun i σ H' => ∃ (o5 o6 o7 : Option V) (ws : List V) (rs : List (List Int)), σ = [some (.ref a), some (.ref b), some vt, some (.int way), some (.ref pf), o5, o6, o7] ∧ SameX a H H' ∧ Lf H' a (k + 3 + 40 * i) ∧
      H' pf = some (.lst ws) ∧ Paired (isRkX ns a pf H') ws rs ∧ rs.length = i) ⟨none, none, none, [], [], rfl, x15, hL5.mono (by omega), hf5, .nil, rfl⟩ (fun i σ H6 hi hP => ?_) (fun σ H6 hP => ?_)⟩
    · obtain ⟨o5, o6, o7, ws, rs, rfl, x6, hL6, hf6, hR, hrl⟩ := hP
      have hi20 : i < 20 := by omega
      have hwl := paired_len hR
      have hN6 := x6 _ _ hab.symm hN
      refine ⟨_, rfl, _, rfl, _, rfl, a, b, vt, ns, E, k + 3 + 40 * i, rfl, hL6, by omega, hab, hN6, hnd, h1, h10, fun H2 z => hE H2 (x6.trans z), hTr, fun H7 p7 r7 x7 hL7 n7 n7a h7 r7n r7m => ?_⟩
      have hf7 := x7 _ _ nfa hf6
      have n7f : p7 ≠ pf := (ne_of_none hf6 n7).symm
      have hR7 := paired_mono (fun _ _ r => rkX_x x7 r) hR
      have x67 := x6.trans x7
      -- two neighbours exchanged, or not
      refine ⟨fun σ' H' => ∃ (o5 o7 : Option V) (r : List Int), σ' = [some (.ref a), some (.ref b), some vt, some (.int way), some (.ref pf), o5, some (.ref p7), o7] ∧ SameX a H H' ∧ Lf H' a (k + 3 + 40 * i + 12) ∧ H' pf = some (.lst ws) ∧ Paired (isRkX ns a pf H') ws rs ∧ LI H' p7 r ∧ Good1 ns r, ?_, fun σ' H8 hM => ?_⟩
      · have stay : ∃ (o5 o7' : Option V) (r : List Int), [some (.ref a), some (.ref b), some vt, some (.int way), some (.ref pf), some (.int (0 + (i : Int))), some (.ref p7), o7] = [some (.ref a), some (.ref b), some vt, some (.int way), some (.ref pf), o5, some (.ref p7), o7'] ∧ SameX a H H7 ∧ Lf H7 a (k + 3 + 40 * i + 12) ∧ H7 pf = some (.lst ws) ∧ Paired (isRkX ns a pf H7) ws rs ∧ LI H7 p7 r ∧ Good1 ns r :=
          ⟨_, _, r7, rfl, x67, hL7.mono (by omega), hf7, hR7, h7, r7n, r7m⟩
        refine ⟨_, rfl, rfl, _, rfl, ?_⟩
        rw [dV]
        refine ite2 (fun hw => ?_) (fun _ => stay)
        refine ⟨_, rfl, b, _, rfl, .inl (SqL.of (x7 _ _ hab.symm hN6)), _, _, rfl, rfl, _, rfl, ite2 (fun hl => ?_) (fun _ => stay)⟩
        have hl := of_decide_eq_true hl
        rw [ints_len] at hl
        refine ⟨_, rfl, a, 4, k + 3 + 40 * i + 10, rfl, hL7, by omega, by decide, by decide, fun r8 H8 r80 r84 x8 hL8 => ?_⟩
        have hf8 := x8 _ _ nfa hf7
        have hR8 := paired_mono (fun _ _ r => rkX_x x8 r) hR7
        have h78 := x8 _ _ n7a h7
        refine ⟨rfl, _, rfl, ?_⟩
        rw [dV]
        refine ite2 (fun _ => ?_) (fun _ => ⟨_, _, r7, rfl, x67.trans x8, hL8.mono (by omega), hf8, hR8, h78, r7n, r7m⟩)
        have x68 := x67.trans x8
        refine ⟨_, rfl, _, rfl, b, _, rfl, .inl (SqL.of (x68 _ _ hab.symm hN)), _, _, rfl, rfl, a, _, k + 3 + 40 * i + 10 + 1, rfl, hL8, by omega, by rw [ints_len]; omega, by rw [ints_len]; omega, fun at_ H9 a0 a1 x9 hL9 => ?_⟩
        rw [ints_len] at a1
        have g7 : Good1 ns r7 := ⟨r7n, r7m⟩
        have l7 := g7.len hnd
        have hf9 := x9 _ _ nfa hf8
        have hR9 := paired_mono (fun _ _ r => rkX_x x9 r) hR8
        have h79 := x9 _ _ n7a h78
        have x69 := x68.trans x9
        obtain ⟨at', rfl⟩ : ∃ at' : Nat, at_ = (at' : Int) := ⟨at_.toNat, by omega⟩
        have q0 : r7[at']? = some r7[at'] := List.getElem?_eq_getElem (by omega)
        have q1 : r7[at' + 1]? = some r7[at' + 1] := List.getElem?_eq_getElem (by omega)
        have v0 : atI (r7.map V.int) (at' : Int) = some (.int r7[at']) := atI_nat (by rw [List.getElem?_map, q0]; rfl)
        have v1 : atI (r7.map V.int) ((at' : Int) + 1) = some (.int r7[at' + 1]) := by
          rw [show ((at' : Int) + 1) = ((at' + 1 : Nat) : Int) by omega]
          exact atI_nat (by rw [List.getElem?_map, q1]; rfl)
        have sw := swap_perm q0 q1
        refine ⟨_, rfl, _, rfl, _, _, rfl, rfl, p7, _, _, _, rfl, rfl, SqL.of h79, v1, _, rfl, _, rfl, p7, _, _, _, rfl, rfl, SqL.of h79, v0, (by show 2 ≤ sizeLine; decide), fun pt nt => ?_⟩
        have s10 : Same H9 (upd H9 pt (.tup [.int r7[at' + 1], .int r7[at']])) := same_upd nt
        have h710 := s10 _ _ h79
        have hf10 := s10 _ _ hf9
        have hR10 := paired_mono (fun _ _ r => rkX_x (same_toX s10) r) hR9
        have hL10 := hL9.same s10
        have x610 := x69.trans (same_toX s10)
        refine ⟨pt, [.int r7[at' + 1], .int r7[at']], rfl, SqT.of upd_same, rfl, _, _, rfl, ?_⟩
        generalize upd H9 pt (.tup [.int r7[at' + 1], .int r7[at']]) = H10 at *
        refine ⟨_, rfl, _, rfl, p7, _, _, at', rfl, rfl, h710, ixN_of (by rw [ints_len]; omega) rfl, ?_⟩
        have e11 : (r7.map V.int).set at' (.int r7[at' + 1]) = (r7.set at' r7[at' + 1]).map V.int := by rw [List.map_set]
        rw [e11]
        have h711 : upd H10 p7 (.lst ((r7.set at' r7[at' + 1]).map V.int)) p7 = some (.lst ((r7.set at' r7[at' + 1]).map V.int)) := upd_same
        refine ⟨_, _, rfl, _, rfl, _, rfl, _, _, rfl, rfl, p7, _, _, at' + 1, rfl, rfl, h711, ixN_of (by rw [ints_len, List.length_set]; omega) (by omega), ?_⟩
        have e12 : ((r7.set at' r7[at' + 1]).map V.int).set (at' + 1) (.int r7[at']) = ((r7.set at' r7[at' + 1]).set (at' + 1) r7[at']).map V.int := by simp only [List.map_set]
        rw [e12]
        refine ⟨rfl, _, _, (r7.set at' r7[at' + 1]).set (at' + 1) r7[at'], rfl, ?_, (((hL10.upd n7a.symm).upd n7a.symm).mono (by omega)), ?_, ?_, upd_same, g7.perm sw⟩
        · have := sameX_free x6 n7 n7a
          exact sameX_put (sameX_put x610 this) this
        · rw [upd_ne n7f.symm, upd_ne n7f.symm]
          exact hf10
        · have y610 : SameX a H6 H10 := x7.trans (x8.trans (x9.trans (same_toX s10)))
          refine paired_mono (fun v r ⟨c, e, na, nb, h, g⟩ => ⟨c, e, na, nb, ?_, g⟩) hR
          have nc : c ≠ p7 := ne_of_none h n7
          rw [LI, upd_ne nc, upd_ne nc]
          exact y610 _ _ na h
      -- if way == 3
      obtain ⟨u5, u7, r8, rfl, x8, hL8, hf8, hR8, h8, g8⟩ := hM
      refine ⟨fun σ' H' => ∃ (o5 o7 : Option V) (p : Addr) (r : List Int), σ' = [some (.ref a), some (.ref b), some vt, some (.int way), some (.ref pf), o5, some (.ref p), o7] ∧ SameX a H H' ∧ Lf H' a (k + 3 + 40 * i + 25) ∧ H' pf = some (.lst ws) ∧ Paired (isRkX ns a pf H') ws rs ∧ p ≠ a ∧ p ≠ pf ∧ LI H' p r ∧ Good1 ns r, ?_, fun σ' H9 hM => ?_⟩
      · refine ⟨_, rfl, rfl, _, rfl, ?_⟩
        rw [dV]
        refine ite2 (fun hw => ?_) (fun _ => ⟨_, _, p7, r8, rfl, x8, hL8.mono (by omega), hf8, hR8, n7a, n7f, h8, g8⟩)
        refine ⟨_, rfl, _, rfl, a, b, ns, k + 3 + 40 * i + 12, rfl, hL8, by omega, hab, x8 _ _ hab.symm hN, h10, fun H9 p9 ms x9 hL9 n9 n9a h9 perm => ?_⟩
        exact ⟨_, _, p9, ms, rfl, x8.trans x9, hL9.mono (by omega), x9 _ _ nfa hf8, paired_mono (fun _ _ r => rkX_x x9 r) hR8, n9a, (ne_of_none hf8 n9).symm, h9, perm.nodup_iff.mpr hnd, fun x => perm.mem_iff⟩
      obtain ⟨u5, u7, p9, r9, rfl, x9, hL9, hf9, hR9, n9a, n9f, h9, g9⟩ := hM
      -- one told already, told again
      refine ⟨fun σ' H' => ∃ (o5 o7 : Option V) (p : Addr) (r : List Int), σ' = [some (.ref a), some (.ref b), some vt, some (.int way), some (.ref pf), o5, some (.ref p), o7] ∧ SameX a H H' ∧ Lf H' a (k + 3 + 40 * i + 30) ∧ H' pf = some (.lst ws) ∧ Paired (isRkX ns a pf H') ws rs ∧ p ≠ a ∧ p ≠ pf ∧ LI H' p r ∧ Good1 ns r, ?_, fun σ' H10 hM => ?_⟩
      · refine ⟨_, rfl, Nat.zero_le _, fun pe ne => ?_⟩
        have s10 : Same H9 (upd H9 pe (.lst [])) := same_upd ne
        have hF : isFolk (upd H9 pe (.lst [])) (.ref pf) rs := ⟨pf, ws, rfl, s10 _ _ hf9, paired_mono (fun _ _ r => rkX_rk (rkX_x (same_toX s10) r)) hR9⟩
        refine ⟨_, .list [], (enc_lst (enc_lst enc_int)).dp _ _ _ hF, (enc_lst enc_int).dp _ _ _ (lst_int (ns := []) upd_same), (enc_lst (K := K) (enc_lst enc_int)).shaped (by decide) _, by decide, _, rfl, ?_⟩
        rw [eqv_nil]
        have hf10 := s10 _ _ hf9
        have hR10 := paired_mono (fun _ _ r => rkX_x (same_toX s10) r) hR9
        have h910 := s10 _ _ h9
        have hL10 := hL9.same s10
        have x10 := x9.trans (same_toX s10)
        generalize upd H9 pe (.lst []) = H10 at *
        refine ite2 (fun hn => ?_) (fun _ => ⟨_, _, p9, r9, rfl, x10, hL10.mono (by omega), hf10, hR10, n9a, n9f, h910, g9⟩)
        have hne : 1 ≤ ws.length := by
          rw [hwl]
          cases rs with
          | nil => exact absurd hn (by decide)
          | cons _ _ => rw [List.length_cons]; omega
        refine ⟨_, rfl, a, 6, k + 3 + 40 * i + 25, rfl, hL10, by omega, by decide, by decide, fun r11 H11 r110 r116 x11 hL11 => ?_⟩
        have hf11 := x11 _ _ nfa hf10
        have hR11 := paired_mono (fun _ _ r => rkX_x x11 r) hR10
        have h911 := x11 _ _ n9a h910
        refine ⟨rfl, _, rfl, ?_⟩
        rw [dV]
        refine ite2 (fun _ => ?_) (fun _ => ⟨_, _, p9, r9, rfl, x10.trans x11, hL11.mono (by omega), hf11, hR11, n9a, n9f, h911, g9⟩)
        refine ⟨_, rfl, _, rfl, _, rfl, pf, _, rfl, .inl (SqL.of hf11), a, _, k + 3 + 40 * i + 25 + 1, rfl, hL11, by omega, by omega, by omega, fun r12 H12 r120 r121 x12 hL12 => ?_⟩
        have hf12 := x12 _ _ nfa hf11
        have hR12 := paired_mono (fun _ _ r => rkX_x x12 r) hR11
        obtain ⟨v, hv, hv'⟩ := at_int' (xs := ws) r120 r121
        obtain ⟨r, hr, c, rfl, nca, ncf, hc, gc⟩ := paired_get hR12 hv'
        refine ⟨pf, _, r12, _, rfl, rfl, SqL.of hf12, hv, c, _, rfl, .inl (SqL.of hc), fun l nl => ?_⟩
        have s13 : Same H12 (upd H12 l (.lst (r.map V.int))) := same_upd nl
        exact ⟨_, _, l, r, rfl, (x10.trans (x11.trans x12)).trans (same_toX s13), (hL12.same s13).mono (by omega), s13 _ _ hf12, paired_mono (fun _ _ r => rkX_x (same_toX s13) r) hR12, hL12.some nl, (ne_of_none hf12 nl).symm, upd_same, gc⟩
      obtain ⟨u5, u7, p10, r10, rfl, x10, hL10, hf10, hR10, n10a, n10f, h10', g10⟩ := hM
      refine ⟨_, rfl, .inl ⟨rfl, _, SqL.of hf10⟩, _, rfl, pf, _, _, rfl, rfl, hf10, Nat.lt_of_le_of_lt (show ws.length ≤ 1000 by omega) (by decide), ?_⟩
      refine ⟨_, _, _, ws ++ [.ref p10], rs ++ [r10], rfl, sameX_put x10 npf, (hL10.upd nfa.symm).mono (by omega), upd_same, ?_, by rw [List.length_append, List.length_singleton, hrl]⟩
      exact paired_app (paired_mono (fun _ _ r => rkX_upd r) hR10) (.cons ⟨p10, rfl, n10a, n10f, by rw [LI, upd_ne n10f]; exact h10', g10⟩ .nil)
    · obtain ⟨o5, o6, o7, ws, rs, rfl, x6, hL6, hf6, hR, hrl⟩ := hP
      refine ⟨_, rfl, q H6 pf rs x6 (hL6.mono (by omega)) nfa (fun H2 z => ⟨pf, ws, rfl, z _ _ nfa hf6, paired_mono (fun _ _ r => rkX_rk (rkX_x z r)) hR⟩) (by omega) (by omega) fun r hr => ?_⟩
      obtain ⟨i, hi, e⟩ := List.getElem_of_mem hr
      obtain ⟨v, _, c, _, _, _, _, g⟩ := paired_get' hR (i := i) (y := r) (by rw [List.getElem?_eq_getElem hi, e])
      exact g
end
end K74
namespace K74
open PySem PySem.Spec PyProof.Rows L2
/-! ### a dict of names -/
def dictOf (ns : List Int) (f : Int → Int) : List (L2.Key × V) := ns.map fun n => (Sum.inl n, V.int (f n))
theorem dict_val {f : Int → Int} {n : Int} : ∀ {ns : List Int}, n ∈ ns → valV (dictOf ns f) (Sum.inl n) = some (V.int (f n))
  | m :: ns, h => by
    by_cases e : m = n
    · subst e
      exact valV_pos (p := (Sum.inl m, V.int (f m))) rfl
    · have h' : n ∈ ns := (List.mem_cons.mp h).elim (fun z => absurd z.symm e) id
      rw [show dictOf (m :: ns) f = (Sum.inl m, V.int (f m)) :: dictOf ns f from rfl, valV_neg (fun z => e (Sum.inl.inj z))]
      exact dict_val h'
theorem dict_any {f : Int → Int} {n : Int} {ns : List Int} : ((dictOf ns f).any fun kv => decide (kv.1 = Sum.inl n)) = decide (n ∈ ns) := by
  rw [Bool.eq_iff_iff, List.any_eq_true, decide_eq_true_iff]
  constructor
  · rintro ⟨kv, h, e⟩
    obtain ⟨m, hm, rfl⟩ := List.mem_map.mp h
    have e := of_decide_eq_true e
    exact Sum.inl.inj e ▸ hm
  · intro h
    exact ⟨_, List.mem_map.mpr ⟨n, h, rfl⟩, decide_eq_true rfl⟩
theorem dict_put {f : Int → Int} {n v : Int} {ns : List Int} (h : n ∈ ns) : putK (dictOf ns f) (Sum.inl n) (V.int v) = dictOf ns fun m => if m = n then v else f m := by
  unfold putK
  rw [dict_any, if_pos (decide_eq_true h)]
  unfold dictOf
  rw [List.map_map]
  refine List.map_congr_left fun m _ => ?_
  show (if (Sum.inl m : L2.Key) = Sum.inl n then (Sum.inl m, V.int v) else (Sum.inl m, V.int (f m))) = (Sum.inl m, V.int (if m = n then v else f m))
  by_cases e : m = n
  · rw [if_pos (by rw [e]), if_pos e]
  · rw [if_neg (fun z => e (Sum.inl.inj z)), if_neg e]
theorem dict_new {n : Int} {ns : List Int} {f : Int → Int} (h : n ∉ ns) : putK (dictOf ns f) (Sum.inl n) (V.int (f n)) = dictOf (ns ++ [n]) f := by
  unfold putK
  rw [dict_any, if_neg (by rw [decide_eq_false h]; decide)]
  unfold dictOf
  rw [List.map_append]
  rfl
theorem dict_merge {f : Int → Int} : ∀ (ns pre : List Int), (pre ++ ns).Nodup → mergeK (dictOf pre f) (dictOf ns f) = dictOf (pre ++ ns) f
  | [], pre, _ => by
    rw [List.append_nil]
    rfl
  | n :: ns, pre, h => by
    have hn : n ∉ pre := fun z => by
      rw [List.nodup_append] at h
      exact h.2.2 n z n (by simp) rfl
    show mergeK (putK (dictOf pre f) (Sum.inl n) (V.int (f n))) (dictOf ns f) = _
    rw [dict_new hn, dict_merge ns (pre ++ [n]) (by rw [List.append_assoc]; exact h), List.append_assoc]
    rfl
theorem dict_congr {f g : Int → Int} {ns : List Int} (h : ∀ n ∈ ns, f n = g n) : dictOf ns f = dictOf ns g := List.map_congr_left fun n hn => by rw [h n hn]
theorem dget {H : Hp} {d : Addr} {ns : List Int} {f : Int → Int} {n : Int} (e : H d = some (.dK (dictOf ns f))) (h : n ∈ ns) : DGet H d (.int n) (some (V.int (f n))) := by
  have := DGet.k (k := Sum.inl n) e
  rw [dict_val h] at this
  exact this
/-- (n, n) -/
def isTwin : Rel Int := fun H v n => ∃ p, v = .ref p ∧ H p = some (.tup [.int n, .int n])
theorem twin_pairs {K : PySem.W.Frag} {H : Hp} : ∀ {ws : List V} {ns : List Int}, Paired (isTwin H) ws ns → ∃ ps : List Addr, ws = ps.map V.ref ∧ Paired (fun p kv => SqT K H p [kV kv.1, kv.2]) ps (dictOf ns id)
  | _, _, .nil => ⟨[], rfl, .nil⟩
  | _, _, .cons ⟨p, e, h⟩ r => by
    obtain ⟨ps, e', q⟩ := twin_pairs (K := K) r
    exact ⟨p :: ps, by rw [e, e']; rfl, .cons (SqT.of h) q⟩
section
variable {P : Program} {w : World} {K : PySem.W.Frag} {mg : Str → Option Value} {base : Heap}
def spRing : Sp := fun vs H Q _ => ∃ (vt : V) (b : Addr) (E : List Tie) (ns : List Int), vs = [vt, .ref b] ∧ isTies H vt E ∧ LI H b ns ∧ ns.Nodup ∧ ns.length ≤ 10 ∧ (∀ t ∈ E, t.1 ∈ ns ∧ t.2 ∈ ns) ∧ ∀ H', Same H H' → Q (.bl (noRing E id)) H'
theorem kn_ring (S : Std K mg "_law_no_ring" s_L_no_ring) (T : Txt mg) : Kn P w K mg base 1 "_law_no_ring" p_L_no_ring spRing := by
  refine kn_mk S c_L_no_ring (fun vs H Q E h => ?_) (fun _ _ _ _ _ _ us hl => match us, hl with | [_, _], _ => rfl) (fun f cdv A outer s H vs Q E hr h => ?_)
  · obtain ⟨vt, b, E, ns, rfl, _⟩ := h
    rfl
  · obtain ⟨vt, b, E, ns, rfl, ⟨l, ws, rfl, hl, hE⟩, hN, hnd, h10, hin, q⟩ := h
    have hu := hu_of hr
    refine ⟨_, pss_cons (ps_set (i := 3) c_L_no_ring.nd rfl (Or.inl rfl) (pe_callTy (call_dictP rfl) (by rfl) T.dict (by decide +kernel) (pa_cons
        (pe_lc (own := [("_law_name", 2)]) (g := gName 2) (tt := tYes) rfl c_L_no_ring.nd (pi_list (pv 1)) (blkOk_by (N := n_L_no_ring) (sc := defScope s_L_no_ring) (by decide +kernel))
          (fun _ _ _ _ _ => pg_name (i := 2) c_L_no_ring.nd rfl (Or.inl rfl)) (fun _ _ _ _ _ => pts_nil) (fun _ _ _ _ _ => pe_tup (pa_cons (pv 2) (pa_cons (pv 2) pa_nil)))) pa_nil)))
      (pss_cons (ps_for PassesOwn.never rfl (pi_list (pv 0)) (pg_tup rfl (pgs_cons (pg_name (i := 4) c_L_no_ring.nd rfl (Or.inl rfl)) (pgs_cons (pg_name (i := 5) c_L_no_ring.nd rfl (Or.inl rfl)) pgs_nil)))
        (pss_cons (ps_if (pt_cmpR op_eq (pe_dget hu (pv 3) (pv 4) (fun _ _ => rfl)) (pe_dget hu (pv 3) (pv 5) (fun _ _ => rfl)) (nomark _)) (pss_one (ps_ret pe_bl)) pss_nil)
        (pss_cons (ps_set (i := 6) c_L_no_ring.nd rfl (Or.inl rfl) (pe_dget hu (pv 3) (pv 5) (fun _ _ => rfl)))
        (pss_one (ps_for PassesOwn.never rfl (pi_list (pv 1)) (pg_name (i := 2) c_L_no_ring.nd rfl (Or.inl rfl))
          (pss_one (ps_if (pt_cmpR op_eq (pe_dget hu (pv 3) (pv 2) (fun _ _ => rfl)) (pv 6) (nomark _)) (pss_one (ps_dput hu (pv 3) (pv 2) (pe_dget hu (pv 3) (pv 4) (fun _ _ => rfl)) rfl)) pss_nil)))))))
      (pss_one (ps_ret pe_bl))), ?_⟩
    refine ⟨_, rfl, b, rfl, ⟨_, SqL.of hN⟩, fun D hD => lc_gen (R := isInt) isTwin mono_int (fun _ => true) (fun n => n) hN (int_paired ns) hD (by omega) (fun n hn v H1 N M s1 hacc rx yes no => ?_) (fun H1 us s1 hw hp1 => ?_)⟩
    · subst rx
      obtain ⟨acc, hacc⟩ := hacc
      refine ⟨rfl, lcYes ⟨_, rfl, _, rfl, (by show 2 ≤ sizeLine; decide), fun p np => yes rfl _ _ (same_upd np) fun H2 z => ⟨p, rfl, z _ _ (ne_of_none hacc np).symm upd_same⟩⟩⟩
    · rw [filter_true, List.map_id'] at hp1
      obtain ⟨ps, rfl, hps⟩ := twin_pairs (K := K) hp1
      refine ⟨D, ps, dictOf ns id, rfl, SqL.of hw, hps, fun pd nd => ?_⟩
      rw [show mergeK [] (dictOf ns id) = dictOf ns id from dict_merge ns [] hnd]
      have s2 : Same H1 (upd H1 pd (.dK (dictOf ns id))) := same_upd nd
      have npd := s1.free nd
      have hwl := paired_len hE
      have hdl : ∀ f, (dictOf ns f).length < sizeLine := fun f => by
        unfold dictOf
        rw [List.length_map]
        exact Nat.lt_of_le_of_lt (show ns.length ≤ 1000 by omega) (by decide)
      refine ⟨_, rfl, l, rfl, ⟨_, SqL.of ((s1.trans s2) _ _ hl)⟩, for_rel (R := isTie) (xs := E) hwl (fun i σ H' => ∃ (f : Int → Int) (o2 o4 o5 o6 : Option V), σ = [some (.ref l), some (.ref b), o2, some (.ref pd), o4, o5, o6] ∧ Same H H' ∧ H' pd = some (.dK (dictOf ns f)) ∧ noRing E id = noRing (E.drop i) f)
        ⟨id, _, _, _, _, rfl, s1.trans s2, upd_same, rfl⟩ (fun i σ H' ⟨_, _, _, _, _, _, s3, _, _⟩ => ⟨s3 _ _ hl, paired_mono (fun _ _ r => mono_tie _ _ _ _ s3 r) hE⟩) (fun i t v σ H3 ht hi rt hP => ?_) (fun σ H3 hP => ?_)⟩
      · obtain ⟨f, o2, o4, o5, o6, rfl, s3, hd3, hno⟩ := hP
        obtain ⟨tp, rfl, htp⟩ := rt
        obtain ⟨i1, i2⟩ := hin t (List.mem_of_getElem? ht)
        have ed : E.drop i = t :: E.drop (i + 1) := by
          rw [List.drop_eq_getElem_cons hi, (List.getElem?_eq_some_iff.mp ht).2]
        rw [ed] at hno
        refine ⟨tp, [.int t.1, .int t.2], rfl, SqT.of htp, rfl, .int t.1, [.int t.2], rfl, .int t.2, [], rfl, rfl, ?_⟩
        refine ⟨_, rfl, _, rfl, pd, _, rfl, dget hd3 i1, _, rfl, _, rfl, pd, _, rfl, dget hd3 i2, rfl, _, rfl, ?_⟩
        rw [dV]
        refine ite2 (fun e => ?_) (fun e => ?_)
        · have e := of_decide_eq_true e
          have : noRing E id = false := by
            rw [hno, noRing, if_pos e]
          rw [this] at q
          exact q _ s3
        · have e : ¬ f t.1 = f t.2 := fun z => e (decide_eq_true z)
          rw [noRing, if_neg e] at hno
          refine ⟨_, rfl, _, rfl, pd, _, rfl, dget hd3 i2, ?_⟩
          refine ⟨_, rfl, b, rfl, ⟨_, SqL.of (s3 _ _ hN)⟩, for_rel (R := isInt) (xs := ns) (ints_len ns) (fun j σ H' => ∃ o2 : Option V, σ = [some (.ref l), some (.ref b), o2, some (.ref pd), some (.int t.1), some (.int t.2), some (.int (f t.2))] ∧ Same H H' ∧
            H' pd = some (.dK (dictOf ns fun m => if m ∈ ns.take j ∧ f m = f t.2 then f t.1 else f m)))
            ⟨_, rfl, s3, by rw [hd3]; exact congrArg (fun z => some (HO.dK z)) (dict_congr fun n _ => by simp)⟩ (fun j σ H' ⟨_, _, s4, _⟩ => ⟨s4 _ _ hN, int_paired ns⟩) (fun j n v σ H4 hn hj rx hP => ?_) (fun σ H4 hP => ?_)⟩
          · obtain ⟨u2, rfl, s4, hd4⟩ := hP
            subst rx
            have hnm := List.mem_of_getElem? hn
            have et : ns.take (j + 1) = ns.take j ++ [n] := by
              rw [List.take_succ_eq_append_getElem hj, (List.getElem?_eq_some_iff.mp hn).2]
            have hnot : n ∉ ns.take j := fun z => by
              have := nodup_take (j + 1) hnd
              rw [et, List.nodup_append] at this
              exact this.2.2 n z n (by simp) rfl
            refine ⟨_, rfl, _, rfl, pd, _, rfl, dget hd4 hnm, _, rfl, rfl, _, rfl, ?_⟩
            rw [dV]
            rw [if_neg (fun z => hnot z.1)]
            refine ite2 (fun y => ?_) (fun y => ?_)
            · have y := of_decide_eq_true y
              refine ⟨_, rfl, _, rfl, pd, _, rfl, dget hd4 i1, _, rfl, _, rfl, pd, _, rfl, DPut.k (k := Sum.inl n) hd4 (hdl _), ?_⟩
              refine ⟨_, rfl, same_put s4 npd, ?_⟩
              rw [upd_same, if_neg (fun z => e z.2), dict_put hnm]
              refine congrArg (fun z => some (HO.dK z)) (dict_congr fun m _ => ?_)
              rw [et]
              by_cases em : m = n
              · rw [if_pos em, if_pos ⟨by rw [em]; simp, by rw [em]; exact y⟩]
              · rw [if_neg em]
                by_cases z : m ∈ ns.take j ∧ f m = f t.2
                · rw [if_pos z, if_pos ⟨List.mem_append_left _ z.1, z.2⟩]
                · rw [if_neg z, if_neg fun u => z ⟨(List.mem_append.mp u.1).elim id fun k => absurd (List.mem_singleton.mp k) em, u.2⟩]
            · have y : ¬ f n = f t.2 := fun z => y (decide_eq_true z)
              refine ⟨_, rfl, s4, ?_⟩
              rw [hd4]
              refine congrArg (fun z => some (HO.dK z)) (dict_congr fun m _ => ?_)
              rw [et]
              by_cases em : m = n
              · rw [em, if_neg fun z => y z.2, if_neg fun z => y z.2]
              · by_cases z : m ∈ ns.take j ∧ f m = f t.2
                · rw [if_pos z, if_pos ⟨List.mem_append_left _ z.1, z.2⟩]
                · rw [if_neg z, if_neg fun u => z ⟨(List.mem_append.mp u.1).elim id fun k => absurd (List.mem_singleton.mp k) em, u.2⟩]
          · obtain ⟨u2, rfl, s4, hd4⟩ := hP
            rw [List.take_length] at hd4
            refine ⟨merge f t, _, _, _, _, rfl, s4, ?_, hno⟩
            rw [hd4]
            refine congrArg (fun z => some (HO.dK z)) (dict_congr fun m hm => ?_)
            unfold merge
            by_cases z : f m = f t.2
            · rw [if_pos ⟨hm, z⟩, if_pos z]
            · rw [if_neg fun u => z u.2, if_neg z]
      · obtain ⟨f, o2, o4, o5, o6, rfl, s3, hd3, hno⟩ := hP
        rw [List.drop_length] at hno
        exact blT (Q := Q) rfl (by rw [show noRing E id = true from hno] at q; exact q _ s3)
end
end K74
namespace K74
open PySem PySem.Spec PyProof.Rows L2
/-! ### equal lists of ties -/
theorem eqv_tie {t u : Tie} (h : PyData.eqv (encT t) (encT u) = true) : t = u := by
  obtain ⟨a, b⟩ := t
  obtain ⟨c, d⟩ := u
  simp only [encT, PyData.eqv, PyData.eqvAll, Bool.and_eq_true, beq_iff_eq, Bool.and_true] at h
  rw [h.1, h.2]
theorem eqvAll_ties : ∀ {E F : List Tie}, PyData.eqvAll (E.map encT) (F.map encT) = true → E = F
  | [], [], _ => rfl
  | [], _ :: _, h => by
    unfold PyData.eqvAll at h
    cases h
  | _ :: _, [], h => by
    unfold PyData.eqvAll at h
    cases h
  | t :: E, u :: F, h => by
    rw [List.map_cons, List.map_cons, PyData.eqvAll, Bool.and_eq_true] at h
    rw [eqv_tie h.1, eqvAll_ties h.2]
def encE (E : List Tie) : PyData := .list (E.map encT)
theorem eqv_ties {E F : List Tie} (h : PyData.eqv (encE E) (encE F) = true) : E = F := by
  unfold encE at h
  rw [PyData.eqv] at h
  exact eqvAll_ties h
theorem in_ties {L : List (List Tie)} {E : List Tie} (h : (L.map encE).any (fun z => PyData.eqv z (encE E)) = true) : E ∈ L := by
  rw [List.any_eq_true] at h
  obtain ⟨z, hz, e⟩ := h
  obtain ⟨F, hF, rfl⟩ := List.mem_map.mp hz
  rw [← eqv_ties e]
  exact hF
/-- ties that stand whatever becomes of the list at b -/
theorem ties_x {H H2 : Hp} {p b : Addr} {E : List Tie} (h : isTies H (.ref p) E) (n : p ≠ b) {xs : List V} (hb : H b = some (.lst xs)) (s : SameX b H H2) : isTies H2 (.ref p) E := by
  obtain ⟨p', vs, e, hp, hr⟩ := h
  cases e
  refine ⟨p, vs, rfl, s _ _ n hp, paired_mono (fun v t ⟨q, e, h⟩ => ⟨q, e, s _ _ (ne_of h hb (fun z => nomatch z)) h⟩) hr⟩
/-- .. whose list is not at b -/
def isTiesN (b : Addr) : Rel (List Tie) := fun H v E => ∃ p, v = .ref p ∧ p ≠ b ∧ isTies H (.ref p) E
theorem tiesN_of {H1 H : Hp} {b : Addr} (n : H1 b = none) (s : Same H1 H) {v : V} {E : List Tie} (h : isTies H1 v E) : isTiesN b H v E := by
  obtain ⟨p, vs, rfl, hp, hr⟩ := h
  exact ⟨p, rfl, ne_of_none hp n, mono_ties _ _ _ _ s ⟨p, vs, rfl, hp, hr⟩⟩
/-- the tree with one tie more -/
def moreOf (E : List Tie) (x y : Int) : List Tie := sortT (E ++ [(x, y)])
/-- it is taken up where it is to be -/
def Took (ns : List Int) (k : Nat) (L : List (List Tie)) (E : List Tie) (x y : Int) : Prop := x < y → (moreOf E x y).length = k + 1 → noRing (moreOf E x y) id = true → moreOf E x y ∈ L
/-- what a level's trees are -/
def LevelOk (ns : List Int) (k : Nat) (L : List (List Tie)) : Prop := ∀ E ∈ L, E.Pairwise ltT ∧ E.length = k ∧ ∀ t ∈ E, t.1 < t.2 ∧ t.1 ∈ ns ∧ t.2 ∈ ns
theorem Took.mono {ns : List Int} {k : Nat} {L L' : List (List Tie)} {E : List Tie} {x y : Int} (h : Took ns k L E x y) (s : ∀ z ∈ L, z ∈ L') : Took ns k L' E x y := fun a b c => s _ (h a b c)
/-- amid a level: what the longer ones are so far -/
def Mid (ns : List Int) (k : Nat) (pl : Addr) (H1 : Hp) (LL : List (List Tie)) (i n : Nat) (extra : List (List Tie) → Prop) (H' : Hp) : Prop :=
  ∃ (ws : List V) (L : List (List Tie)), Same H1 H' ∧ H' pl = some (.lst ws) ∧ Paired (fun y E => ∀ H2, SameX pl H' H2 → isTies H2 y E) ws L ∧ LevelOk ns (k + 1) L ∧ L.length ≤ n ∧ (∀ x ∈ LL.take i, ∀ y ∈ ns, ∀ z ∈ ns, Took ns k L x y z) ∧ extra L
theorem level_end {ns : List Int} {k : Nat} {LL L : List (List Tie)} (hn : ns.Nodup) (h1 : 1 ≤ ns.length) (hk : k + 1 < ns.length) (hT : ∀ E, isTree ns E = true → E.take k ∈ LL) (h : ∀ x ∈ LL, ∀ y ∈ ns, ∀ z ∈ ns, Took ns k L x y z) : ∀ E, isTree ns E = true → E.take (k + 1) ∈ L := fun E hE => by
  obtain ⟨l, ok, srt, _⟩ := isTree_out hE
  have hk' : k < E.length := by omega
  obtain ⟨a, b, c⟩ := ok E[k] (List.getElem_mem hk')
  have e : moreOf (E.take k) E[k].1 E[k].2 = E.take (k + 1) := sort_take srt hk'
  have := h _ (hT E hE) E[k].1 b E[k].2 c a (by rw [e, List.length_take]; omega) (by rw [e]; exact tree_noRing hn h1 hE (k + 1))
  rw [e] at this
  exact this
section
variable {P : Program} {w : World} {K : PySem.W.Frag} {mg : Str → Option Value} {base : Heap}
def spAll : Sp := fun vs H Q _ => ∃ (b : Addr) (ns : List Int), vs = [.ref b] ∧ LI H b ns ∧ ns.Nodup ∧ (∀ n ∈ ns, 0 ≤ n) ∧ 1 ≤ ns.length ∧ ns.length ≤ 4 ∧
  ∀ H' v L, Same H H' → isLst isTies H' v L → LevelOk ns (ns.length - 1) L → (∀ E, isTree ns E = true → E ∈ L) → L.length ≤ 1000000 → Q v H'
theorem kn_all (S : Std K mg "_law_all_trees" s_L_all_trees) (T : Txt mg) (k1 : Kn P w K mg base 1 "_law_no_ring" p_L_no_ring spRing) : Kn P w K mg base 2 "_law_all_trees" p_L_all_trees spAll := by
  obtain ⟨f1, fd1, G1, b1, g1, e1⟩ := k1
  refine kn_mk S c_L_all_trees (fun vs H Q E h => ?_) (fun _ _ _ _ _ _ us hl => match us, hl with | [_], _ => rfl) (fun f cdv A outer s H vs Q E hr h => ?_)
  · obtain ⟨b, ns, rfl, _⟩ := h
    rfl
  · obtain ⟨b, ns, rfl, hN, hnd, hpos, h1, h4, q⟩ := h
    have hu : A.units + 3 + 65 < cLine := by
      have := hr.un
      show A.units + 3 + 65 < _
      have e : (A.deeper (envOfC "_law_all_trees" (defScope s_L_all_trees) s.heap.objs.size f cdv)).units = A.units + 3 := rfl
      rw [e] at this
      omega
    refine ⟨_, pss_cons (ps_set (i := 1) c_L_all_trees.nd rfl (Or.inl rfl) (pe_lst (pa_cons (pe_lst pa_nil) pa_nil)))
      (pss_cons (ps_for PassesOwn.never rfl (pi_range1 (by rfl) T.range (pa_cons (pe_op op_sub (pe_callB call_len_seq (by rfl) T.len PySem.boot_len (pa_cons (pv 0) pa_nil)) pe_int) pa_nil)) (pg_name (i := 2) c_L_all_trees.nd rfl (Or.inl rfl))
        (pss_cons (ps_set (i := 3) c_L_all_trees.nd rfl (Or.inl rfl) (pe_lst pa_nil))
        (pss_cons (ps_for PassesOwn.never rfl (pi_list (pv 1)) (pg_name (i := 4) c_L_all_trees.nd rfl (Or.inl rfl))
          (pss_one (ps_for PassesOwn.never rfl (pi_list (pv 0)) (pg_name (i := 5) c_L_all_trees.nd rfl (Or.inl rfl))
            (pss_one (ps_for PassesOwn.never rfl (pi_list (pv 0)) (pg_name (i := 6) c_L_all_trees.nd rfl (Or.inl rfl))
              (pss_cons (ps_set (i := 7) c_L_all_trees.nd rfl (Or.inl rfl) (pe_callB (cr_sortedT rfl) (by rfl) T.sorted boot_sorted (pa_cons (pe_callTy (cr_setOfT rfl hr.units) (by rfl) T.set boot_set (pa_cons (pe_op op_cat (pv 4) (pe_lst (pa_cons (pe_tup (pa_cons (pv 5) (pa_cons (pv 6) pa_nil))) pa_nil))) pa_nil)) pa_nil)))
              (pss_one (ps_if (PW.pt (pw_and (pt_cmpR op_lt (pv 5) (pv 6) (nomark _)) (pw_and (pt_cmpR op_eq (pe_callB call_len_seq (by rfl) T.len PySem.boot_len (pa_cons (pv 7) pa_nil)) (pe_op op_add (pv 2) pe_int) (nomark _))
                  (pw_and (pt_cmpR (op_notInD hu) (pv 7) (pv 3) (by rfl)) (pw_and1 (pt_val (pe_call G1 hr (by rfl) g1 e1 b1 .nil pass0 (pa_cons (pv 7) (pa_cons (pv 0) pa_nil)))))))))
                (pss_one (ps_expr (pe_bm PySem.F.plainAttrs_list PySem.F.slot_list_append PySem.F.type_list_append mt_append (pv 3) (pa_cons (pv 7) pa_nil)))) pss_nil))))))))
        (pss_one (ps_set (i := 1) c_L_all_trees.nd rfl (Or.inl rfl) (pv 3))))))
      (pss_one (ps_ret (pv 1)))), ?_⟩
    obtain ⟨B, hB⟩ := bound ns
    refine ⟨Nat.zero_le _, fun pe ne => ⟨(by show 1 ≤ sizeLine; decide), fun pf nf => ?_⟩⟩
    have s1 : Same H (upd H pe (.lst [])) := same_upd ne
    have s2 : Same (upd H pe (.lst [])) (upd (upd H pe (.lst [])) pf (.lst [.ref pe])) := same_upd nf
    have hF0 : isLst isTies (upd (upd H pe (.lst [])) pf (.lst [.ref pe])) (.ref pf) [[]] := ⟨pf, _, rfl, upd_same, .cons ⟨pe, [], rfl, s2 _ _ upd_same, .nil⟩ .nil⟩
    refine ⟨_, rfl, b, _, rfl, .inl (SqL.of ((s1.trans s2) _ _ hN)), _, _, rfl, rfl, _, rfl, by rw [ints_len]; omega, by rw [ints_len]; omega, for_range (lo := 0) (n := ((((ns.map V.int).length : Nat) : Int) - 1).toNat)
      (fun k σ H' => ∃ (pf : Addr) (o2 o3 o4 o5 o6 o7 : Option V) (LL : List (List Tie)), σ = [some (.ref b), some (.ref pf), o2, o3, o4, o5, o6, o7] ∧ Same H H' ∧ isLst isTies H' (.ref pf) LL ∧ LevelOk ns k LL ∧ (∀ E, isTree ns E = true → E.take k ∈ LL) ∧ LL.length ≤ 16 ^ k)
      ⟨pf, none, none, none, none, none, none, [[]], rfl, s1.trans s2, hF0, fun E hE => by rw [List.mem_singleton.mp hE]; exact ⟨.nil, rfl, fun t ht => (nomatch ht)⟩, fun E _ => by simp, Nat.le_refl _⟩ (fun k σ H1 hk hP => ?_) (fun σ H1 hP => ?_)⟩
    · obtain ⟨pf, o2, o3, o4, o5, o6, o7, LL, rfl, s3, ⟨pf', fs, epf, hpf, hfs⟩, hLv, hT, hLL⟩ := hP
      cases epf
      rw [ints_len] at hk
      have hk : k + 1 < ns.length := by omega
      refine ⟨Nat.zero_le _, fun pl nl => ?_⟩
      have s4 : Same H1 (upd H1 pl (.lst [])) := same_upd nl
      have npl := s3.free nl
      have hfl := paired_len hfs
      have hLL3 : LL.length ≤ 4096 := Nat.le_trans hLL (Nat.le_trans (Nat.pow_le_pow_right (by decide) (show k ≤ 3 by omega)) (by decide))
      refine ⟨_, rfl, pf, rfl, ⟨_, SqL.of (s4 _ _ hpf)⟩, for_rel (R := isTiesN pl) (xs := LL) hfl (fun i σ H' => ∃ (o4 o5 o6 o7 : Option V), σ = [some (.ref b), some (.ref pf), some (.int (0 + (k : Int))), some (.ref pl), o4, o5, o6, o7] ∧ Mid ns k pl H1 LL i (16 * i) (fun _ => True) H')
        ⟨_, _, _, _, rfl, [], [], s4, upd_same, .nil, fun E hE => (nomatch hE), Nat.zero_le _, (fun x hx => by rw [List.take_zero] at hx; cases hx), trivial⟩ (fun i σ H' ⟨_, _, _, _, _, _, _, s5, _⟩ => ⟨s5 _ _ hpf, paired_mono (fun _ _ r => tiesN_of nl s5 r) hfs⟩) (fun i E v σ H2 hE hi rE hP => ?_) (fun σ H2 hP => ?_)⟩
      · obtain ⟨u4, u5, u6, u7, rfl, ws, L, s5, hw, hWs, hLo, hLl, hTk, _⟩ := hP
        obtain ⟨tv, rfl, ntv, rE⟩ := rE
        have hEm := List.mem_of_getElem? hE
        obtain ⟨eSort, eLen, eOk⟩ := hLv E hEm
        have et : LL.take (i + 1) = LL.take i ++ [E] := by
          rw [List.take_succ_eq_append_getElem hi, (List.getElem?_eq_some_iff.mp hE).2]
        -- for one
        refine ⟨_, rfl, b, rfl, ⟨_, SqL.of (s5 _ _ (s3 _ _ hN))⟩, for_rel (R := isInt) (xs := ns) (ints_len ns) (fun j σ H' => ∃ (o5 o6 o7 : Option V), σ = [some (.ref b), some (.ref pf), some (.int (0 + (k : Int))), some (.ref pl), some (.ref tv), o5, o6, o7] ∧
            Mid ns k pl H1 LL i (16 * i + 4 * j) (fun L => ∀ y ∈ ns.take j, ∀ z ∈ ns, Took ns k L E y z) H' ∧ isTies H' (.ref tv) E)
          ⟨_, _, _, rfl, ⟨ws, L, s5, hw, hWs, hLo, by omega, hTk, fun y hy => by rw [List.take_zero] at hy; cases hy⟩, rE⟩ (fun j σ H' ⟨_, _, _, _, ⟨_, _, s6, _⟩, _⟩ => ⟨s6 _ _ (s3 _ _ hN), int_paired ns⟩) (fun j x v1 σ H3 hx hj rx hP => ?_) (fun σ H3 hP => ?_)⟩
        · obtain ⟨w5, w6, w7, rfl, ⟨ws, L, s6, hw, hWs, hLo, hLl, hTk, hTj⟩, rE3⟩ := hP
          subst rx
          have hxm := List.mem_of_getElem? hx
          have etj : ns.take (j + 1) = ns.take j ++ [x] := by
            rw [List.take_succ_eq_append_getElem hj, (List.getElem?_eq_some_iff.mp hx).2]
          -- for other
          refine ⟨_, rfl, b, rfl, ⟨_, SqL.of (s6 _ _ (s3 _ _ hN))⟩, for_rel (R := isInt) (xs := ns) (ints_len ns) (fun m σ H' => ∃ (o6 o7 : Option V), σ = [some (.ref b), some (.ref pf), some (.int (0 + (k : Int))), some (.ref pl), some (.ref tv), some (.int x), o6, o7] ∧
              Mid ns k pl H1 LL i (16 * i + 4 * j + m) (fun L => (∀ y ∈ ns.take j, ∀ z ∈ ns, Took ns k L E y z) ∧ ∀ z ∈ ns.take m, Took ns k L E x z) H' ∧ isTies H' (.ref tv) E)
            ⟨_, _, rfl, ⟨ws, L, s6, hw, hWs, hLo, by omega, hTk, hTj, fun z hz => by rw [List.take_zero] at hz; cases hz⟩, rE3⟩ (fun m σ H' ⟨_, _, _, ⟨_, _, s7, _⟩, _⟩ => ⟨s7 _ _ (s3 _ _ hN), int_paired ns⟩) (fun m y v2 σ H4 hy hm ry hP => ?_) (fun σ H4 hP => ?_)⟩
          · obtain ⟨z6, z7, rfl, ⟨ws, L, s7, hw, hWs, hLo, hLl, hTk, hTj, hTm⟩, rE4⟩ := hP
            subst ry
            have hym := List.mem_of_getElem? hy
            have etm : ns.take (m + 1) = ns.take m ++ [y] := by
              rw [List.take_succ_eq_append_getElem hm, (List.getElem?_eq_some_iff.mp hy).2]
            have hm4 : m < 4 := by omega
            have hj4 : j < 4 := by omega
            have hi4 : i < 4096 := by omega
            obtain ⟨te, ts, ete, hte, hts⟩ := rE4
            cases ete
            have htl := paired_len hts
            -- more = sorted(set(tree + [(one, other)]))
            refine ⟨_, rfl, _, rfl, _, rfl, (by show 2 ≤ sizeLine; decide), fun pt nt => ⟨(by show 1 ≤ sizeLine; decide), fun p1 n1 => ?_⟩⟩
            have s8 : Same H4 (upd H4 pt (.tup [.int x, .int y])) := same_upd nt
            have s9 : Same (upd H4 pt (.tup [.int x, .int y])) (upd (upd H4 pt (.tup [.int x, .int y])) p1 (.lst [.ref pt])) := same_upd n1
            refine ⟨tv, p1, ts, [.ref pt], rfl, rfl, s9 _ _ (s8 _ _ hte), upd_same, line_of (by rw [List.length_singleton]; omega), fun p2 n2 => ?_⟩
            have s10 : Same (upd (upd H4 pt (.tup [.int x, .int y])) p1 (.lst [.ref pt])) (upd (upd (upd H4 pt (.tup [.int x, .int y])) p1 (.lst [.ref pt])) p2 (.lst (ts ++ [.ref pt]))) := same_upd n2
            have s410 := s8.trans (s9.trans s10)
            have hcat : isTies (upd (upd (upd H4 pt (.tup [.int x, .int y])) p1 (.lst [.ref pt])) p2 (.lst (ts ++ [.ref pt]))) (.ref p2) (E ++ [(x, y)]) :=
              ⟨p2, _, rfl, upd_same, paired_app (paired_mono (fun _ _ r => mono_tie _ _ _ _ s410 r) hts) (.cons ⟨pt, rfl, (s9.trans s10) _ _ upd_same⟩ .nil)⟩
            generalize upd (upd (upd H4 pt (.tup [.int x, .int y])) p1 (.lst [.ref pt])) p2 (.lst (ts ++ [.ref pt])) = H5 at *
            obtain ⟨p2', ks, e2, hks, hk1, hk2⟩ := ties_ks hcat
            cases e2
            have hkl : ks.length = E.length + 1 := by
              have := congrArg List.length hk2
              rw [List.length_map, List.length_map, List.length_append, List.length_singleton] at this
              exact this
            have hBd : ∀ t ∈ E ++ [(x, y)], TS.Bd B (tl t) := fun t ht m hm => by
              have : t.1 ∈ ns ∧ t.2 ∈ ns := by
                rcases List.mem_append.mp ht with ht | ht
                · exact (eOk t ht).2
                · rw [List.mem_singleton.mp ht]
                  exact ⟨hxm, hym⟩
              rcases List.mem_cons.mp hm with e | hm
              · rw [e]
                exact ⟨hpos _ this.1, hB _ this.1⟩
              · rw [List.mem_singleton.mp hm]
                exact ⟨hpos _ this.2, hB _ this.2⟩
            refine ⟨p2, ks, rfl, SqL.of hks, fun p hp => SqT.of (hk1 p hp), by omega, fun a La na m1 m2 => ?_⟩
            have s11 : Same H5 (upd H5 a (SetTO P w a La)) := same_upd na
            refine ⟨a, La, 2, B, rfl, upd_same, fun p hp => SqT.of (s11 _ _ (hk1 p (m1 p hp))), by decide, fun p hp => ?_, fun L' p perm nd l64 pw np => ?_⟩
            · have : p.2 ∈ (E ++ [(x, y)]).map tl := by
                rw [← hk2]
                exact List.mem_map.mpr ⟨p, m1 p hp, rfl⟩
              obtain ⟨t, ht, e⟩ := List.mem_map.mp this
              rw [← e]
              exact ⟨rfl, hBd t ht⟩
            have s12 : Same _ (upd (upd H5 a (SetTO P w a La)) p (.lst (L'.map fun q => V.ref q.1))) := same_upd np
            have hmore : isTies _ (.ref p) (moreOf E x y) := sorted_set hk1 hk2 m1 m2 hBd perm nd pw (s11.trans s12) upd_same
            have s412 := s410.trans (s11.trans s12)
            have hpl : p ≠ pl := (ne_of_none (s11 _ _ (s410 _ _ hw)) np).symm
            dsimp only [cxOf, Cx.nox]
            generalize upd (upd H5 a (SetTO P w a La)) p (.lst (L'.map fun q => V.ref q.1)) = H6 at *
            obtain ⟨p', ms, ep, hpm, hms⟩ := id hmore
            cases ep
            have hml := paired_len hms
            have hw6 := s412 _ _ hw
            have hWs6 := paired_mono (fun _ _ (r : ∀ H2, SameX pl H4 H2 → _) H2 z => r H2 ((same_toX s412).trans z)) hWs
            have s16 := s7.trans s412
            have skip : ∀ H', Same H6 H' → Took ns k L E x y → ∃ (o6 o7 : Option V), [some (.ref b), some (.ref pf), some (.int (0 + (k : Int))), some (.ref pl), some (.ref tv), some (.int x), some (.int y), some (.ref p)] = [some (.ref b), some (.ref pf), some (.int (0 + (k : Int))), some (.ref pl), some (.ref tv), some (.int x), o6, o7] ∧
                Mid ns k pl H1 LL i (16 * i + 4 * j + (m + 1)) (fun L => (∀ y ∈ ns.take j, ∀ z ∈ ns, Took ns k L E y z) ∧ ∀ z ∈ ns.take (m + 1), Took ns k L E x z) H' ∧ isTies H' (.ref tv) E := fun H' s' tk => by
              refine ⟨_, _, rfl, ⟨ws, L, s16.trans s', s' _ _ hw6, paired_mono (fun _ _ (r : ∀ H2, SameX pl H6 H2 → _) H2 z => r H2 ((same_toX s').trans z)) hWs6, hLo, by omega, hTk, hTj, fun z hz => ?_⟩, mono_ties _ _ _ _ (s412.trans s') ⟨tv, ts, rfl, hte, hts⟩⟩
              rw [etm] at hz
              rcases List.mem_append.mp hz with hz | hz
              · exact hTm z hz
              · rw [List.mem_singleton.mp hz]
                exact tk
            refine ⟨_, rfl, _, rfl, _, _, rfl, rfl, _, rfl, ite2 (fun c1 => ?_) (fun c1 => skip _ (Same.refl _) fun z => absurd (decide_eq_true z) c1)⟩
            have c1 := of_decide_eq_true c1
            refine ⟨_, rfl, p, _, rfl, .inl (SqL.of hpm), _, rfl, _, _, rfl, rfl, rfl, _, rfl, ?_⟩
            rw [dV]
            refine ite2 (fun c2 => ?_) (fun c2 => skip _ (Same.refl _) fun _ z => absurd (decide_eq_true (show (ms.length : Int) = 0 + (k : Int) + 1 by omega)) c2)
            have c2 : (ms.length : Int) = 0 + (k : Int) + 1 := of_decide_eq_true c2
            have hL6 : isLst isTies H6 (.ref pl) L := ⟨pl, ws, rfl, hw6, paired_mono (fun _ _ r => r _ (SameX.refl _ _)) hWs6⟩
            refine ⟨_, rfl, _, rfl, encE (moreOf E x y), _, (enc_lst enc_tie).dp _ _ _ hmore, (enc_lst (enc_lst enc_tie)).dp _ _ _ hL6, (enc_lst (K := K) enc_tie).shaped (by decide) _, (enc_lst (K := K) (enc_lst enc_tie)).shaped (by decide) _, _, rfl, ite2 (fun c3 => ?_) (fun c3 => skip _ (Same.refl _) fun _ _ _ => in_ties (by simpa [encE] using c3))⟩
            have mOk : ∀ t ∈ moreOf E x y, t.1 < t.2 ∧ t.1 ∈ ns ∧ t.2 ∈ ns := fun t ht => by
              rcases List.mem_append.mp (mem_sortD.mp ht) with ht | ht
              · exact eOk t ht
              · rw [List.mem_singleton.mp ht]
                exact ⟨c1, hxm, hym⟩
            refine ⟨_, rfl, _, rfl, .ref p, b, moreOf E x y, ns, rfl, hmore, s16 _ _ (s3 _ _ hN), hnd, by omega, fun t ht => (mOk t ht).2, fun H7 s13 => ⟨_, rfl, ?_⟩⟩
            cases c4 : noRing (moreOf E x y) id with
            | false => exact iteF (skip _ s13 fun _ _ z => by rw [c4] at z; cases z)
            | true =>
              refine iteT ⟨_, rfl, .inl ⟨rfl, _, SqL.of (s13 _ _ hw6)⟩, _, rfl, pl, _, _, rfl, rfl, s13 _ _ hw6, Nat.lt_of_le_of_lt (show ws.length ≤ 1000000 by have := paired_len hWs; omega) (by decide), ?_⟩
              have hmore7 := mono_ties _ _ _ _ s13 hmore
              have hWs7 := paired_mono (fun _ _ (r : ∀ H2, SameX pl H6 H2 → _) H2 z => r H2 ((same_toX s13).trans z)) hWs6
              have sub : ∀ z ∈ L, z ∈ L ++ [moreOf E x y] := fun z hz => List.mem_append_left _ hz
              refine ⟨_, _, rfl, ⟨ws ++ [.ref p], L ++ [moreOf E x y], same_put (s16.trans s13) nl, upd_same, ?_, ?_, by rw [List.length_append, List.length_singleton]; omega, fun u hu y' hy' z' hz' => (hTk u hu y' hy' z' hz').mono sub, fun y' hy' z' hz' => (hTj y' hy' z' hz').mono sub, fun z hz => ?_⟩, ?_⟩
              · refine paired_app (paired_mono (fun _ _ (r : ∀ H2, SameX pl H7 H2 → _) H2 z => r H2 (sameX_upd.trans z)) hWs7) (.cons (fun H2 z => ties_x hmore7 hpl (s13 _ _ hw6) (sameX_upd.trans z)) .nil)
              · intro F hF
                rcases List.mem_append.mp hF with hF | hF
                · exact hLo F hF
                · rw [List.mem_singleton.mp hF]
                  exact ⟨sortD_sorted strictT _, by omega, mOk⟩
              · rw [etm] at hz
                rcases List.mem_append.mp hz with hz | hz
                · exact (hTm z hz).mono sub
                · rw [List.mem_singleton.mp hz]
                  exact fun _ _ _ => List.mem_append_right _ List.mem_cons_self
              · have hte7 := s13 _ _ (s412 _ _ hte)
                exact ties_x (mono_ties _ _ _ _ (s412.trans s13) ⟨tv, ts, rfl, hte, hts⟩) ntv (s13 _ _ hw6) sameX_upd
          · obtain ⟨z6, z7, rfl, ⟨ws, L, s7, hw, hWs, hLo, hLl, hTk, hTj, hTm⟩, rE4⟩ := hP
            rw [List.take_length] at hTm
            refine ⟨_, _, _, rfl, ⟨ws, L, s7, hw, hWs, hLo, by omega, hTk, fun y hy => ?_⟩, rE4⟩
            rw [etj] at hy
            rcases List.mem_append.mp hy with hy | hy
            · exact hTj y hy
            · rw [List.mem_singleton.mp hy]
              exact hTm
        · obtain ⟨w5, w6, w7, rfl, ⟨ws, L, s6, hw, hWs, hLo, hLl, hTk, hTj⟩, rE3⟩ := hP
          rw [List.take_length] at hTj
          refine ⟨_, _, _, _, rfl, ws, L, s6, hw, hWs, hLo, by omega, fun u hu => ?_, trivial⟩
          rw [et] at hu
          rcases List.mem_append.mp hu with hu | hu
          · exact hTk u hu
          · rw [List.mem_singleton.mp hu]
            exact hTj
      · obtain ⟨u4, u5, u6, u7, rfl, ws, L, s5, hw, hWs, hLo, hLl, hTk, _⟩ := hP
        rw [List.take_length] at hTk
        refine ⟨_, rfl, pl, _, _, _, _, _, _, L, rfl, s3.trans s5, ⟨pl, ws, rfl, hw, paired_mono (fun _ _ r => r _ (SameX.refl _ _)) hWs⟩, hLo, level_end hnd h1 hk hT hTk, ?_⟩
        rw [Nat.pow_succ, Nat.mul_comm]
        exact Nat.le_trans hLl (Nat.mul_le_mul_left 16 hLL)
    · obtain ⟨pf, o2, o3, o4, o5, o6, o7, LL, rfl, s3, hF, hLv, hT, hLL⟩ := hP
      have ek : ((((ns.map V.int).length : Nat) : Int) - 1).toNat = ns.length - 1 := by
        rw [ints_len]
        omega
      rw [ek] at hLv hT hLL
      refine ⟨_, rfl, q _ _ LL s3 hF hLv (fun E hE => ?_) (Nat.le_trans hLL (Nat.le_trans (Nat.pow_le_pow_right (by decide) (show ns.length - 1 ≤ 3 by omega)) (by decide)))⟩
      have l := (isTree_out hE).len
      have := hT E hE
      rw [List.take_of_length_le (by omega)] at this
      exact this
end
end K74
namespace K74
open PySem PySem.Spec PyProof.Rows L2
/-! ### data all the way down, at addresses of which N holds -/
mutual
inductive DtN (N : Addr → Prop) (H : Hp) : V → PyData → Prop
  | int (i : Int) : DtN N H (.int i) (.int i)
  | str (x : Str) : DtN N H (.str x) (.str x)
  | lst {a : Addr} {xs : List V} {ds : List PyData} : N a → H a = some (.lst xs) → DtNs N H xs ds → DtN N H (.ref a) (.list ds)
  | tup {a : Addr} {xs : List V} {ds : List PyData} : N a → H a = some (.tup xs) → DtNs N H xs ds → DtN N H (.ref a) (.tuple ds)
inductive DtNs (N : Addr → Prop) (H : Hp) : List V → List PyData → Prop
  | nil : DtNs N H [] []
  | cons {v : V} {vs : List V} {d : PyData} {ds : List PyData} : DtN N H v d → DtNs N H vs ds → DtNs N H (v :: vs) (d :: ds)
end
mutual
theorem DtN.keep {N N' : Addr → Prop} {H H' : Hp} (hn : ∀ a, N a → N' a) (hk : ∀ a o, N a → H a = some o → H' a = some o) : ∀ {v : V} {d : PyData}, DtN N H v d → DtN N' H' v d
  | _, _, .int i => .int i
  | _, _, .str x => .str x
  | _, _, .lst n h r => .lst (hn _ n) (hk _ _ n h) (r.keep hn hk)
  | _, _, .tup n h r => .tup (hn _ n) (hk _ _ n h) (r.keep hn hk)
theorem DtNs.keep {N N' : Addr → Prop} {H H' : Hp} (hn : ∀ a, N a → N' a) (hk : ∀ a o, N a → H a = some o → H' a = some o) : ∀ {vs : List V} {ds : List PyData}, DtNs N H vs ds → DtNs N' H' vs ds
  | _, _, .nil => .nil
  | _, _, .cons r t => .cons (r.keep hn hk) (t.keep hn hk)
end
/-- anywhere -/
abbrev Dt (H : Hp) (v : V) (d : PyData) : Prop := DtN (fun _ => True) H v d
theorem DtN.any {N : Addr → Prop} {H : Hp} {v : V} {d : PyData} (h : DtN N H v d) : Dt H v d := h.keep (fun _ _ => trivial) fun _ _ _ e => e
theorem mono_dt : Mono (fun H v d => Dt H v d) := fun _ _ _ _ s h => h.keep (fun _ z => z) fun _ _ _ e => s _ _ e
theorem dts_paired {N : Addr → Prop} {H : Hp} : ∀ {vs : List V} {ds : List PyData}, DtNs N H vs ds → Paired (fun v d => DtN N H v d) vs ds
  | _, _, .nil => .nil
  | _, _, .cons r t => .cons r (dts_paired t)
theorem paired_dts {N : Addr → Prop} {H : Hp} : ∀ {vs : List V} {ds : List PyData}, Paired (fun v d => DtN N H v d) vs ds → DtNs N H vs ds
  | _, _, .nil => .nil
  | _, _, .cons r t => .cons r (paired_dts t)
theorem dts_of {α : Type} {R : Rel α} {e : α → PyData} {H : Hp} (h : ∀ v x, R H v x → Dt H v (e x)) : ∀ {vs : List V} {xs : List α}, Paired (R H) vs xs → DtNs (fun _ => True) H vs (xs.map e)
  | _, _, .nil => .nil
  | _, _, .cons r t => .cons (h _ _ r) (dts_of h t)
theorem dt_tie {H : Hp} {v : V} {t : Tie} (h : isTie H v t) : Dt H v (encT t) := by
  obtain ⟨p, rfl, h⟩ := h
  exact .tup trivial h (.cons (.int _) (.cons (.int _) .nil))
theorem dt_int {H : Hp} {v : V} {n : Int} (h : isInt H v n) : Dt H v (.int n) := by
  rw [show v = V.int n from h]
  exact .int n
theorem dt_lst {α : Type} {R : Rel α} {e : α → PyData} {H : Hp} (h : ∀ v x, R H v x → Dt H v (e x)) {v : V} {xs : List α} (l : isLst R H v xs) : Dt H v (.list (xs.map e)) := by
  obtain ⟨a, vs, rfl, ha, p⟩ := l
  exact .lst trivial ha (dts_of h p)
/-! ### back from data -/
theorem tie_dt {N : Addr → Prop} {H : Hp} {v : V} {t : Tie} (h : DtN N H v (encT t)) : isTie H v t := by
  cases h with
  | tup n h r =>
    cases r with
    | cons r1 r =>
      cases r1
      cases r with
      | cons r2 r =>
        cases r2
        cases r
        exact ⟨_, rfl, h⟩
theorem int_dt {N : Addr → Prop} {H : Hp} {v : V} {n : Int} (h : DtN N H v (.int n)) : isInt H v n := by
  cases h
  rfl
theorem of_dts {α : Type} {R : Rel α} {e : α → PyData} {N : Addr → Prop} {H : Hp} (h : ∀ v x, DtN N H v (e x) → R H v x) : ∀ {vs : List V} {xs : List α}, DtNs N H vs (xs.map e) → Paired (R H) vs xs
  | [], [], _ => .nil
  | _ :: _, [], r => nomatch r
  | [], _ :: _, r => nomatch r
  | v :: vs, x :: xs, .cons r t => .cons (h _ _ r) (of_dts h t)
theorem lst_dt {α : Type} {R : Rel α} {e : α → PyData} {N : Addr → Prop} {H : Hp} (h : ∀ v x, DtN N H v (e x) → R H v x) {v : V} {xs : List α} (l : DtN N H v (.list (xs.map e))) : isLst R H v xs := by
  cases l with
  | lst n ha r => exact ⟨_, _, rfl, ha, of_dts h r⟩
def encF (folk : List (List Int)) : PyData := .list (folk.map fun r => .list (r.map .int))
theorem dt_folk {H : Hp} {v : V} {folk : List (List Int)} (h : isFolk H v folk) : Dt H v (encF folk) := dt_lst (fun _ _ => dt_lst fun _ _ => dt_int) h
theorem folk_dt {N : Addr → Prop} {H : Hp} {v : V} {folk : List (List Int)} (h : DtN N H v (encF folk)) : isFolk H v folk := lst_dt (fun _ _ => lst_dt fun _ _ => int_dt) h
/-- no dict, no None, no truth within -/
theorem depth_tup {ds : List PyData} {n : Nat} (h : PyData.depth (.tuple ds) ≤ n + 1) : PyData.depthAll ds ≤ n := by
  unfold PyData.depth at h
  omega
theorem depth_lst {ds : List PyData} {n : Nat} (h : PyData.depth (.list ds) ≤ n + 1) : PyData.depthAll ds ≤ n := by
  unfold PyData.depth at h
  omega
theorem depth_mem {n : Nat} : ∀ {ds : List PyData}, PyData.depthAll ds ≤ n → ∀ d ∈ ds, d.depth ≤ n
  | [], _, _, h => nomatch h
  | d :: ds, h, x, hx => by
    unfold PyData.depthAll at h
    have := Nat.max_le.mp h
    rcases List.mem_cons.mp hx with e | hx
    · rw [e]
      exact this.1
    · exact depth_mem this.2 x hx
/-- as many parts as may be -/
def Lens : PyData → Nat → Prop
  | _, 0 => True
  | .list ds, n + 1 => ds.length ≤ 1000 ∧ ∀ d ∈ ds, Lens d n
  | .tuple ds, n + 1 => ds.length ≤ 1000 ∧ ∀ d ∈ ds, Lens d n
  | _, _ => True
section
variable {P : Program} {w : World} {K : PySem.W.Frag} {mg : Str → Option Value} {base : Heap}
def spCop (n : Nat) : Sp := fun vs H Q _ => ∃ (v : V) (d : PyData), vs = [v] ∧ Dt H v d ∧ d.depth ≤ n ∧ Lens d n ∧ ∀ H' y, Same H H' → DtN (fun p => H p = none) H' y d → Q y H'
theorem kn_cop0 (S : Std K mg "_law_copied" s_L_copied) (T : Txt mg) : Kn P w K mg base 1 "_law_copied" p_L_copied (spCop 0) := by
  refine kn_mk S c_L_copied (fun vs H Q E h => ?_) (fun _ _ _ _ _ _ us hl => match us, hl with | [_], _ => rfl) (fun f cdv A outer s H vs Q E hr h => ?_)
  · obtain ⟨v, d, rfl, _⟩ := h
    rfl
  · obtain ⟨v, d, rfl, hD, hd, hl, q⟩ := h
    refine ⟨_, pss_cons (ps_if (pt_val (pe_callB call_isi (by rfl) T.isi boot_isinstance (pa_cons (pv 0) (pa_cons (pe_bltn (v := .ty "tuple") (by rfl) T.tuple boot_tuple rfl) pa_nil)))) pss_never pss_nil)
      (pss_cons (ps_if (pt_val (pe_callB call_isi (by rfl) T.isi boot_isinstance (pa_cons (pv 0) (pa_cons (pe_bltn (v := .ty "list") (by rfl) T.list boot_list rfl) pa_nil)))) pss_never pss_nil)
      (pss_one (ps_ret (pv 0)))), ?_⟩
    cases hD with
    | int i => exact ⟨_, rfl, .int i, .ty "tuple", _, _, false, rfl, .ty _, ty_int i, kit_ty (by decide +kernel), _, rfl, iteF ⟨_, rfl, .int i, .ty "list", _, _, false, rfl, .ty _, ty_int i, kit_ty (by decide +kernel), _, rfl, iteF ⟨_, rfl, q _ _ (Same.refl _) (.int i)⟩⟩⟩
    | str x => exact ⟨_, rfl, .str x, .ty "tuple", _, _, false, rfl, .ty _, .base (.str x), kit_ty (by decide +kernel), _, rfl, iteF ⟨_, rfl, .str x, .ty "list", _, _, false, rfl, .ty _, .base (.str x), kit_ty (by decide +kernel), _, rfl, iteF ⟨_, rfl, q _ _ (Same.refl _) (.str x)⟩⟩⟩
    | lst _ _ _ =>
      unfold PyData.depth at hd
      omega
    | tup _ _ _ =>
      unfold PyData.depth at hd
      omega
theorem kn_cop (n : Nat) (S : Std K mg "_law_copied" s_L_copied) (T : Txt mg) (k1 : Kn P w K mg base (n + 1) "_law_copied" p_L_copied (spCop n)) : Kn P w K mg base (n + 2) "_law_copied" p_L_copied (spCop (n + 1)) := by
  obtain ⟨f1, fd1, G1, b1, g1, e1⟩ := k1
  refine kn_mk S c_L_copied (fun vs H Q E h => ?_) (fun _ _ _ _ _ _ us hl => match us, hl with | [_], _ => rfl) (fun f cdv A outer s H vs Q E hr h => ?_)
  · obtain ⟨v, d, rfl, _⟩ := h
    rfl
  · obtain ⟨v, d, rfl, hD, hd, hl, q⟩ := h
    refine ⟨_, pss_cons (ps_if (pt_val (pe_callB call_isi (by rfl) T.isi boot_isinstance (pa_cons (pv 0) (pa_cons (pe_bltn (v := .ty "tuple") (by rfl) T.tuple boot_tuple rfl) pa_nil))))
        (pss_one (ps_ret (pe_callTy call_tuple_of (by rfl) T.tuple boot_tuple (pa_cons
          (pe_lc (own := [("_law_part", 1)]) (g := gName 1) (tt := tYes) rfl c_L_copied.nd (pi_tup (pv 0)) (blkOk_by (N := n_L_copied) (sc := defScope s_L_copied) (by decide +kernel))
            (fun _ _ _ _ _ => pg_name (i := 1) c_L_copied.nd rfl (Or.inl rfl)) (fun _ _ _ _ _ => pts_nil) (fun _ _ _ _ _ => pe_call G1 hr (by rfl) g1 e1 b1 .nil pass0 (pa_cons (pv 1) pa_nil))) pa_nil)))) pss_nil)
      (pss_cons (ps_if (pt_val (pe_callB call_isi (by rfl) T.isi boot_isinstance (pa_cons (pv 0) (pa_cons (pe_bltn (v := .ty "list") (by rfl) T.list boot_list rfl) pa_nil))))
        (pss_one (ps_ret (pe_lc (own := [("_law_part", 1)]) (g := gName 1) (tt := tYes) rfl c_L_copied.nd (pi_list (pv 0)) (blkOk_by (N := n_L_copied) (sc := defScope s_L_copied) (by decide +kernel))
            (fun _ _ _ _ _ => pg_name (i := 1) c_L_copied.nd rfl (Or.inl rfl)) (fun _ _ _ _ _ => pts_nil) (fun _ _ _ _ _ => pe_call G1 hr (by rfl) g1 e1 b1 .nil pass0 (pa_cons (pv 1) pa_nil))))) pss_nil)
      (pss_one (ps_ret (pv 0)))), ?_⟩
    have part : ∀ {ds : List PyData} {D : Addr} {H0 : Hp}, PyData.depthAll ds ≤ n → (∀ d ∈ ds, Lens d n) → ∀ d ∈ ds, ∀ (v : V) (H1 : Hp) (N : V → Hp → Prop) (M : Hp → Prop), Same H0 H1 → (∃ acc, H1 D = some (.lst acc)) → Dt H1 v d →
        (true = true → ∀ y H', Same H1 H' → (∀ H2, SameX D H' H2 → DtN (fun p => H0 p = none ∧ p ≠ D) H2 y d) → N y H') → ∃ (v' : V) (d' : PyData), [v] = [v'] ∧ Dt H1 v' d' ∧ d'.depth ≤ n ∧ Lens d' n ∧ ∀ H' y, Same H1 H' → DtN (fun p => H1 p = none) H' y d' → N y H' := by
      intro ds D H0 hdp hln d hds v H1 N M s1 ⟨acc, hacc⟩ hv yes
      refine ⟨v, d, rfl, hv, depth_mem hdp d hds, hln d hds, fun H' y s2 hy => yes rfl _ _ s2 fun H2 x => hy.keep (fun p hp => ⟨s1.free hp, (ne_of_none hacc hp).symm⟩) fun p o hp e => x p o (ne_of_none hacc hp).symm e⟩
    cases hD with
    | int i => exact ⟨_, rfl, .int i, .ty "tuple", _, _, false, rfl, .ty _, ty_int i, kit_ty (by decide +kernel), _, rfl, iteF ⟨_, rfl, .int i, .ty "list", _, _, false, rfl, .ty _, ty_int i, kit_ty (by decide +kernel), _, rfl, iteF ⟨_, rfl, q _ _ (Same.refl _) (.int i)⟩⟩⟩
    | str x => exact ⟨_, rfl, .str x, .ty "tuple", _, _, false, rfl, .ty _, .base (.str x), kit_ty (by decide +kernel), _, rfl, iteF ⟨_, rfl, .str x, .ty "list", _, _, false, rfl, .ty _, .base (.str x), kit_ty (by decide +kernel), _, rfl, iteF ⟨_, rfl, q _ _ (Same.refl _) (.str x)⟩⟩⟩
    | @lst a xs ds _ ha hr1 =>
      obtain ⟨hl1, hl2⟩ := hl
      refine ⟨_, rfl, .ref a, .ty "tuple", _, _, false, rfl, .ty _, ty_lst ha, kit_ty (by decide +kernel), _, rfl, iteF ?_⟩
      refine ⟨_, rfl, .ref a, .ty "list", _, _, true, rfl, .ty _, ty_lst ha, kit_ty (by decide +kernel), _, rfl, iteT ?_⟩
      refine ⟨_, rfl, a, rfl, ⟨_, SqL.of ha⟩, fun D hD => lc_gen (R := fun H v d => Dt H v d) (fun H2 v d => DtN (fun p => H p = none ∧ p ≠ D) H2 v d) mono_dt (fun _ => true) (fun d => d) ha (dts_paired hr1) hD (by omega) (fun d hds v H1 N M s1 hacc rx yes no => ?_) (fun H1 us s1 hw hp1 => ?_)⟩
      · exact ⟨rfl, lcYes ⟨_, rfl, part (depth_lst hd) hl2 d hds v H1 N M s1 hacc rx yes⟩⟩
      · rw [filter_true, List.map_id'] at hp1
        exact q _ _ s1 (.lst hD hw ((paired_dts hp1).keep (fun p hp => hp.1) fun _ _ _ e => e))
    | @tup a xs ds _ ha hr1 =>
      obtain ⟨hl1, hl2⟩ := hl
      refine ⟨_, rfl, .ref a, .ty "tuple", _, _, true, rfl, .ty _, ty_tup ha, kit_ty (by decide +kernel), _, rfl, iteT ?_⟩
      refine ⟨_, rfl, a, rfl, ⟨_, SqT.of ha⟩, fun D hD => lc_genT (R := fun H v d => Dt H v d) (fun H2 v d => DtN (fun p => H p = none ∧ p ≠ D) H2 v d) mono_dt (fun _ => true) (fun d => d) ha (dts_paired hr1) hD (by omega) (fun d hds v H1 N M s1 hacc rx yes no => ?_) (fun H1 us s1 hw hp1 => ?_)⟩
      · exact ⟨rfl, lcYes ⟨_, rfl, part (depth_tup hd) hl2 d hds v H1 N M s1 hacc rx yes⟩⟩
      · rw [filter_true, List.map_id'] at hp1
        refine ⟨D, us, rfl, .inl ⟨SqL.of hw, fun l nl => ?_⟩⟩
        have s2 : Same H1 (upd H1 l (.tup us)) := same_upd nl
        exact q _ _ (s1.trans s2) (.tup (s1.free nl) upd_same ((paired_dts hp1).keep (fun p hp => hp.1) fun _ _ _ e => s2 _ _ e))
end
end K74
namespace K74
open PySem PySem.Spec PyProof.Rows L2
/-- no list, no tuple -/
def isFlat (v : V) : Prop := (∃ i : Int, v = .int i) ∨ ∃ x : Str, v = .str x
/-- flat, or a tuple of such -/
def isFlat1 (H : Hp) (v : V) : Prop := isFlat v ∨ ∃ p xs, v = .ref p ∧ H p = some (.tup xs) ∧ ∀ x ∈ xs, isFlat x
theorem isFlat1.same {H H' : Hp} {v : V} (s : Same H H') (h : isFlat1 H v) : isFlat1 H' v := by
  rcases h with h | ⟨p, xs, e, h, f⟩
  · exact .inl h
  · exact .inr ⟨p, xs, e, s _ _ h, f⟩
theorem flat_ty {K : PySem.W.Frag} {H : Hp} {v : V} (h : isFlat v) : ∃ a : String, TyX K H v (.type a) ∧ kitB a "list" = some false ∧ kitB a "tuple" = some false := by
  rcases h with ⟨i, rfl⟩ | ⟨x, rfl⟩
  · exact ⟨"int", .base (.int i), by decide +kernel, by decide +kernel⟩
  · exact ⟨"str", .base (.str x), by decide +kernel, by decide +kernel⟩
theorem kit2_no {K : PySem.W.Frag} {a : String} (h1 : kitB a "list" = some false) (h2 : kitB a "tuple" = some false) : PySem.W.kitAny K (.type a) [.type "list", .type "tuple"] = some false :=
  kitAny_cons (kit_ty h1) (fun _ => kitAny_cons (kit_ty h2) (fun _ => kitAny_nil) (fun z => (nomatch z))) (fun z => (nomatch z))
theorem kit2_list {K : PySem.W.Frag} : PySem.W.kitAny K (.type "list") [.type "list", .type "tuple"] = some true :=
  kitAny_cons (b := true) (kit_ty (by decide +kernel)) (fun z => (nomatch z)) (fun _ => rfl)
theorem kit2_tup {K : PySem.W.Frag} : PySem.W.kitAny K (.type "tuple") [.type "list", .type "tuple"] = some true :=
  kitAny_cons (b := false) (kit_ty (by decide +kernel)) (fun _ => kitAny_cons (b := true) (kit_ty (by decide +kernel)) (fun z => (nomatch z)) (fun _ => rfl)) (fun z => (nomatch z))
section
variable {P : Program} {w : World} {K : PySem.W.Frag} {mg : Str → Option Value} {base : Heap}
def spEmp0 : Sp := fun vs H Q _ => ∃ v : V, vs = [v] ∧ isFlat v ∧ ∀ H', Same H H' → Q .non H'
def spEmp1 : Sp := fun vs H Q _ => ∃ v : V, vs = [v] ∧ isFlat1 H v ∧ ∀ H', Same H H' → Q .non H'
def spEmp2 : Sp := fun vs H Q _ => ∃ v : V, vs = [v] ∧ ((isFlat v ∧ ∀ H', Same H H' → Q .non H') ∨ ∃ b xs, v = .ref b ∧ H b = some (.lst xs) ∧ (∀ x ∈ xs, isFlat1 H x) ∧ ∀ H', SameX b H H' → H' b = some (.lst []) → Q .non H')
def spEmp3 : Sp := fun vs H Q _ => ∃ (a b : Addr) (x : Str) (xs : List V), vs = [.ref a] ∧ H a = some (.tup [.str x, .ref b]) ∧ H b = some (.lst xs) ∧ (∀ y ∈ xs, isFlat1 H y) ∧ ∀ H', SameX b H H' → Q .non H'
theorem kn_emp0 (S : Std K mg "_law_emptied" s_L_emptied) (T : Txt mg) : Kn P w K mg base 1 "_law_emptied" p_L_emptied spEmp0 := by
  refine kn_mk S c_L_emptied (fun vs H Q E h => ?_) (fun _ _ _ _ _ _ us hl => match us, hl with | [_], _ => rfl) (fun f cdv A outer s H vs Q E hr h => ?_)
  · obtain ⟨v, rfl, _⟩ := h
    rfl
  · obtain ⟨v, rfl, hv, q⟩ := h
    refine ⟨_, pss_cons (ps_if (pt_val (pe_callB call_isiT (by rfl) T.isi boot_isinstance (pa_cons (pv 0) (pa_cons (pe_tup (pa_cons (pe_bltn (v := .ty "list") (by rfl) T.list boot_list rfl) (pa_cons (pe_bltn (v := .ty "tuple") (by rfl) T.tuple boot_tuple rfl) pa_nil))) pa_nil)))) pss_never pss_nil)
      (pss_one (ps_if (pt_val (pe_callB call_isi (by rfl) T.isi boot_isinstance (pa_cons (pv 0) (pa_cons (pe_bltn (v := .ty "list") (by rfl) T.list boot_list rfl) pa_nil)))) pss_never pss_nil)), ?_⟩
    obtain ⟨a, _, k1, k2⟩ := flat_ty (K := K) (H := H) hv
    refine ⟨_, rfl, (by show 2 ≤ sizeLine; decide), fun p np => ?_⟩
    have s1 : Same H (upd H p (.tup [.ty "list", .ty "tuple"])) := same_upd np
    obtain ⟨a, ty, k1, k2⟩ := flat_ty (K := K) (H := upd H p (.tup [.ty "list", .ty "tuple"])) hv
    refine ⟨v, p, _, _, _, _, rfl, upd_same, .cons (.ty _) (.cons (.ty _) .nil), ty, kit2_no k1 k2, _, rfl, iteF ?_⟩
    exact ⟨_, rfl, v, .ty "list", _, _, false, rfl, .ty _, ty, kit_ty k1, _, rfl, iteF (q _ s1)⟩
theorem kn_emp1 (S : Std K mg "_law_emptied" s_L_emptied) (T : Txt mg) (k1 : Kn P w K mg base 1 "_law_emptied" p_L_emptied spEmp0) : Kn P w K mg base 2 "_law_emptied" p_L_emptied spEmp1 := by
  obtain ⟨f1, fd1, G1, b1, g1, e1⟩ := k1
  refine kn_mk S c_L_emptied (fun vs H Q E h => ?_) (fun _ _ _ _ _ _ us hl => match us, hl with | [_], _ => rfl) (fun f cdv A outer s H vs Q E hr h => ?_)
  · obtain ⟨v, rfl, _⟩ := h
    rfl
  · obtain ⟨v, rfl, hv, q⟩ := h
    refine ⟨_, pss_cons (ps_if (pt_val (pe_callB call_isiT (by rfl) T.isi boot_isinstance (pa_cons (pv 0) (pa_cons (pe_tup (pa_cons (pe_bltn (v := .ty "list") (by rfl) T.list boot_list rfl) (pa_cons (pe_bltn (v := .ty "tuple") (by rfl) T.tuple boot_tuple rfl) pa_nil))) pa_nil))))
        (pss_one (ps_for PassesOwn.never rfl (pi_tup (pv 0)) (pg_name (i := 1) c_L_emptied.nd rfl (Or.inl rfl)) (pss_one (ps_expr (pe_call G1 hr (by rfl) g1 e1 b1 .nil pass0 (pa_cons (pv 1) pa_nil)))))) pss_nil)
      (pss_one (ps_if (pt_val (pe_callB call_isi (by rfl) T.isi boot_isinstance (pa_cons (pv 0) (pa_cons (pe_bltn (v := .ty "list") (by rfl) T.list boot_list rfl) pa_nil)))) pss_never pss_nil)), ?_⟩
    refine ⟨_, rfl, (by show 2 ≤ sizeLine; decide), fun p np => ?_⟩
    have s1 : Same H (upd H p (.tup [.ty "list", .ty "tuple"])) := same_upd np
    rcases hv with hv | ⟨t, xs, rfl, ht, hf⟩
    · obtain ⟨a, ty, k1, k2⟩ := flat_ty (K := K) (H := upd H p (.tup [.ty "list", .ty "tuple"])) hv
      refine ⟨v, p, _, _, _, _, rfl, upd_same, .cons (.ty _) (.cons (.ty _) .nil), ty, kit2_no k1 k2, _, rfl, iteF ?_⟩
      exact ⟨_, rfl, v, .ty "list", _, _, false, rfl, .ty _, ty, kit_ty k1, _, rfl, iteF (q _ s1)⟩
    · have ht1 := s1 _ _ ht
      refine ⟨.ref t, p, _, _, _, _, rfl, upd_same, .cons (.ty _) (.cons (.ty _) .nil), ty_tup ht1, kit2_tup, _, rfl, iteT ?_⟩
      refine ⟨_, rfl, t, rfl, ⟨_, SqT.of ht1⟩, for_tup (K := K) (a := t) (xs := xs) (fun i σ H' => ∃ o, σ = [some (.ref t), o] ∧ Same H H') ⟨_, rfl, s1⟩ (fun i σ H' _ ⟨_, _, s2⟩ => SqT.of (s2 _ _ ht)) (fun i x σ H' hx hP => ?_) (fun σ H' hP => ?_)⟩
      · obtain ⟨o, rfl, s2⟩ := hP
        exact ⟨_, rfl, x, rfl, hf x (List.mem_of_getElem? hx), fun H2 s3 => ⟨_, rfl, s2.trans s3⟩⟩
      · obtain ⟨o, rfl, s2⟩ := hP
        exact ⟨_, rfl, .ref t, .ty "list", _, _, false, rfl, .ty _, ty_tup (s2 _ _ ht), kit_ty (by decide +kernel), _, rfl, iteF (q _ s2)⟩
theorem kn_emp2 (S : Std K mg "_law_emptied" s_L_emptied) (T : Txt mg) (k1 : Kn P w K mg base 2 "_law_emptied" p_L_emptied spEmp1) : Kn P w K mg base 3 "_law_emptied" p_L_emptied spEmp2 := by
  obtain ⟨f1, fd1, G1, b1, g1, e1⟩ := k1
  refine kn_mk S c_L_emptied (fun vs H Q E h => ?_) (fun _ _ _ _ _ _ us hl => match us, hl with | [_], _ => rfl) (fun f cdv A outer s H vs Q E hr h => ?_)
  · obtain ⟨v, rfl, _⟩ := h
    rfl
  · obtain ⟨v, rfl, hv⟩ := h
    refine ⟨_, pss_cons (ps_if (pt_val (pe_callB call_isiT (by rfl) T.isi boot_isinstance (pa_cons (pv 0) (pa_cons (pe_tup (pa_cons (pe_bltn (v := .ty "list") (by rfl) T.list boot_list rfl) (pa_cons (pe_bltn (v := .ty "tuple") (by rfl) T.tuple boot_tuple rfl) pa_nil))) pa_nil))))
        (pss_one (ps_for PassesOwn.never rfl (pi_list (pv 0)) (pg_name (i := 1) c_L_emptied.nd rfl (Or.inl rfl)) (pss_one (ps_expr (pe_call G1 hr (by rfl) g1 e1 b1 .nil pass0 (pa_cons (pv 1) pa_nil)))))) pss_nil)
      (pss_one (ps_if (pt_val (pe_callB call_isi (by rfl) T.isi boot_isinstance (pa_cons (pv 0) (pa_cons (pe_bltn (v := .ty "list") (by rfl) T.list boot_list rfl) pa_nil))))
        (pss_one (ps_expr (pe_bm0 PySem.F.plainAttrs_list PySem.F.slot_list_clear PySem.F.type_list_clear mt_clear (pv 0)))) pss_nil)), ?_⟩
    refine ⟨_, rfl, (by show 2 ≤ sizeLine; decide), fun p np => ?_⟩
    have s1 : Same H (upd H p (.tup [.ty "list", .ty "tuple"])) := same_upd np
    rcases hv with ⟨hv, q⟩ | ⟨b, xs, rfl, hb, hf, q⟩
    · obtain ⟨a, ty, k1, k2⟩ := flat_ty (K := K) (H := upd H p (.tup [.ty "list", .ty "tuple"])) hv
      refine ⟨v, p, _, _, _, _, rfl, upd_same, .cons (.ty _) (.cons (.ty _) .nil), ty, kit2_no k1 k2, _, rfl, iteF ?_⟩
      exact ⟨_, rfl, v, .ty "list", _, _, false, rfl, .ty _, ty, kit_ty k1, _, rfl, iteF (q _ s1)⟩
    · have hb1 := s1 _ _ hb
      refine ⟨.ref b, p, _, _, _, _, rfl, upd_same, .cons (.ty _) (.cons (.ty _) .nil), ty_lst hb1, kit2_list, _, rfl, iteT ?_⟩
      refine ⟨_, rfl, b, rfl, ⟨_, SqL.of hb1⟩, for_list (K := K) (a := b) (xs := xs) (fun i σ H' => ∃ o, σ = [some (.ref b), o] ∧ Same H H') ⟨_, rfl, s1⟩ (fun i σ H' _ ⟨_, _, s2⟩ => SqL.of (s2 _ _ hb)) (fun i x σ H' hx hP => ?_) (fun σ H' hP => ?_)⟩
      · obtain ⟨o, rfl, s2⟩ := hP
        exact ⟨_, rfl, x, rfl, (hf x (List.mem_of_getElem? hx)).same s2, fun H2 s3 => ⟨_, rfl, s2.trans s3⟩⟩
      · obtain ⟨o, rfl, s2⟩ := hP
        have hb2 := s2 _ _ hb
        refine ⟨_, rfl, .ref b, .ty "list", _, _, true, rfl, .ty _, ty_lst hb2, kit_ty (by decide +kernel), _, rfl, iteT ?_⟩
        refine ⟨_, rfl, .inl ⟨rfl, _, SqL.of hb2⟩, b, _, rfl, rfl, hb2, ?_⟩
        exact q _ ((same_toX s2).trans sameX_upd) upd_same
theorem kn_emp3 (S : Std K mg "_law_emptied" s_L_emptied) (T : Txt mg) (k1 : Kn P w K mg base 3 "_law_emptied" p_L_emptied spEmp2) : Kn P w K mg base 4 "_law_emptied" p_L_emptied spEmp3 := by
  obtain ⟨f1, fd1, G1, b1, g1, e1⟩ := k1
  refine kn_mk S c_L_emptied (fun vs H Q E h => ?_) (fun _ _ _ _ _ _ us hl => match us, hl with | [_], _ => rfl) (fun f cdv A outer s H vs Q E hr h => ?_)
  · obtain ⟨a, b, x, xs, rfl, _⟩ := h
    rfl
  · obtain ⟨a, b, x, xs, rfl, ha, hb, hf, q⟩ := h
    refine ⟨_, pss_cons (ps_if (pt_val (pe_callB call_isiT (by rfl) T.isi boot_isinstance (pa_cons (pv 0) (pa_cons (pe_tup (pa_cons (pe_bltn (v := .ty "list") (by rfl) T.list boot_list rfl) (pa_cons (pe_bltn (v := .ty "tuple") (by rfl) T.tuple boot_tuple rfl) pa_nil))) pa_nil))))
        (pss_one (ps_for PassesOwn.never rfl (pi_tup (pv 0)) (pg_name (i := 1) c_L_emptied.nd rfl (Or.inl rfl)) (pss_one (ps_expr (pe_call G1 hr (by rfl) g1 e1 b1 .nil pass0 (pa_cons (pv 1) pa_nil)))))) pss_nil)
      (pss_one (ps_if (pt_val (pe_callB call_isi (by rfl) T.isi boot_isinstance (pa_cons (pv 0) (pa_cons (pe_bltn (v := .ty "list") (by rfl) T.list boot_list rfl) pa_nil)))) pss_never pss_nil)), ?_⟩
    refine ⟨_, rfl, (by show 2 ≤ sizeLine; decide), fun p np => ?_⟩
    have s1 : Same H (upd H p (.tup [.ty "list", .ty "tuple"])) := same_upd np
    have nab : a ≠ b := ne_of ha hb (fun z => nomatch z)
    have ha1 := s1 _ _ ha
    refine ⟨.ref a, p, _, _, _, _, rfl, upd_same, .cons (.ty _) (.cons (.ty _) .nil), ty_tup ha1, kit2_tup, _, rfl, iteT ?_⟩
    refine ⟨_, rfl, a, rfl, ⟨_, SqT.of ha1⟩, for_tup (K := K) (a := a) (xs := [.str x, .ref b]) (fun i σ H' => ∃ o, σ = [some (.ref a), o] ∧ SameX b H H' ∧ (i ≤ 1 → Same H H')) ⟨_, rfl, same_toX s1, fun _ => s1⟩ (fun i σ H' _ ⟨_, _, s2, _⟩ => SqT.of (s2 _ _ nab ha)) (fun i y σ H' hy hP => ?_) (fun σ H' hP => ?_)⟩
    · obtain ⟨o, rfl, x2, s2⟩ := hP
      match i, hy with
      | 0, hy =>
        obtain rfl : V.str x = y := Option.some.inj hy
        have s2 := s2 (by decide)
        exact ⟨_, rfl, _, rfl, .inl ⟨.inr ⟨x, rfl⟩, fun H2 s3 => ⟨_, rfl, same_toX (s2.trans s3), fun _ => s2.trans s3⟩⟩⟩
      | 1, hy =>
        obtain rfl : V.ref b = y := Option.some.inj hy
        have s2 := s2 (by decide)
        exact ⟨_, rfl, _, rfl, .inr ⟨b, xs, rfl, s2 _ _ hb, fun y hy => (hf y hy).same s2, fun H2 x3 _ => ⟨_, rfl, (same_toX s2).trans x3, fun z => absurd z (by decide)⟩⟩⟩
      | i + 2, hy => simp at hy
    · obtain ⟨o, rfl, x2, _⟩ := hP
      exact ⟨_, rfl, .ref a, .ty "list", _, _, false, rfl, .ty _, ty_tup (x2 _ _ nab ha), kit_ty (by decide +kernel), _, rfl, iteF (q _ x2)⟩
end
end K74
namespace K74
open PySem PySem.Spec PyProof.Rows L2
/-- list(xs) -/
def rListOf (K : PySem.W.Frag) : List V → Hp → VK → Prop := fun xs H Q => ∃ p ys, xs = [.ref p] ∧ (SqL K H p ys ∨ SqT K H p ys) ∧ ∀ l, H l = none → Q (.ref l) (upd H l (.lst ys))
theorem cr_listOf {X : Cx} : CallR X (.type "list") (rListOf X.K) := call_list_of
theorem last_gt {names : List Int} (h : names.Pairwise fun x y : Int => x < y) {l : Int} (hl : names.getLast? = some l) : ∀ x ∈ names, x < l + 1 := fun x hx => by
  obtain ⟨pre, e⟩ := List.getLast?_eq_some_iff.mp hl
  rw [e] at h hx
  rcases List.mem_append.mp hx with z | z
  · have := (List.pairwise_append.mp h).2.2 x z l (by simp)
    omega
  · rw [List.mem_singleton.mp z]
    omega
theorem both_x {a b : Addr} {ns : List Int} {H H2 : Hp} (n : H b = none) {ts : List V} (h2 : H2 a = some (.tup ts)) : ∀ {fs : List V} {folk : List (List Int)}, Paired (isLst isInt H) fs folk → Paired (isLst isInt H2) fs folk → (∀ r ∈ folk, Good1 ns r) → Paired (isRkX ns a b H) fs folk
  | _, _, .nil, _, _ => .nil
  | v :: fs, r :: folk, .cons u p, .cons w q, g => by
    refine .cons ?_ (both_x n h2 p q fun r hr => g r (List.mem_cons_of_mem _ hr))
    obtain ⟨c, rfl, hc⟩ := isLst_int u
    obtain ⟨c', e, hc'⟩ := isLst_int w
    cases e
    exact ⟨c, rfl, ne_of hc' h2 (fun z => nomatch z), ne_of_none hc n, hc, g r List.mem_cons_self⟩
theorem folk_x {a b : Addr} {ns : List Int} {H : Hp} {v : V} {folk : List (List Int)} (hF : ∀ H2, SameX a H H2 → isFolk H2 v folk) (n : H b = none) (g : ∀ r ∈ folk, Good1 ns r) : ∃ fa fs, v = .ref fa ∧ fa ≠ a ∧ fa ≠ b ∧ H fa = some (.lst fs) ∧ Paired (isRkX ns a b H) fs folk := by
  obtain ⟨fa, fs, rfl, hfa, hfs⟩ := hF H (SameX.refl _ _)
  obtain ⟨fa', fs', e, h', p'⟩ := hF (upd H a (.tup [])) sameX_upd
  cases e
  have na : fa ≠ a := ne_of h' upd_same (fun z => nomatch z)
  rw [upd_ne na, hfa] at h'
  cases h'
  exact ⟨fa, fs, rfl, na, ne_of_none hfa n, hfa, both_x n upd_same hfs p' g⟩
section
variable {P : Program} {w : World} {K : PySem.W.Frag} {mg : Str → Option Value} {base : Heap}
def spBeside : Sp := fun vs H Q _ => ∃ (v : V) (b a : Addr) (folk : List (List Int)) (names : List Int) (k : Nat), vs = [v, .ref b, .ref a] ∧ (∀ H2, SameX a H H2 → isFolk H2 v folk) ∧ b ≠ a ∧ LI H b names ∧ Lf H a k ∧ k ≤ 100000 ∧ Rk folk names ∧ folk.length ≤ 20 ∧ names.length ≤ 9 ∧ (∀ n ∈ names, 0 ≤ n) ∧ ∀ H', SameX a H H' → Q (.bl true) H'
theorem kn_beside (S : Std K mg "_law_beside_one" s_L_beside_one) (T : Txt mg) (k1 : Kn P w K mg base 2 "_law_draw" p_L_draw spDraw) (k2 : Kn P w K mg base 5 "first_apart" p_first_apart spFirst) (k3 : Kn P w K mg base 6 "tree_told" p_tree_told spTold) : Kn P w K mg base 7 "_law_beside_one" p_L_beside_one spBeside := by
  obtain ⟨f1, fd1, G1, b1, g1, e1⟩ := k1
  obtain ⟨f2, fd2, G2, b2, g2, e2⟩ := k2
  obtain ⟨f3, fd3, G3, b3, g3, e3⟩ := k3
  refine kn_mk S c_L_beside_one (fun vs H Q E h => ?_) (fun _ _ _ _ _ _ us hl => match us, hl with | [_, _, _], _ => rfl) (fun f cdv A outer s H vs Q E hr h => ?_)
  · obtain ⟨v, b, a, folk, names, k, rfl, _⟩ := h
    rfl
  · obtain ⟨v, b, a, folk, names, k, rfl, hF, nba, hN, hL, hk, R, hm, h9, hpos, q⟩ := h
    have hr2 := hr.mono (by decide : 2 ≤ 6)
    have hr5 := hr.mono (by decide : 5 ≤ 6)
    refine ⟨_, pss_cons (ps_set (i := 3) c_L_beside_one.nd rfl (Or.inr rfl) (pe_op op_add (pe_ix ix_list (pv 1) (pe_un un_neg pe_int) (fun _ _ => rfl)) pe_int))
      (pss_cons (ps_set (i := 4) c_L_beside_one.nd rfl (Or.inl rfl) (pe_lst pa_nil))
      (pss_cons (ps_for PassesOwn.never rfl (pi_list (pv 0)) (pg_name (i := 5) c_L_beside_one.nd rfl (Or.inl rfl))
        (pss_cons (ps_set (i := 6) c_L_beside_one.nd rfl (Or.inl rfl) (pe_call G1 hr2 (by rfl) g1 e1 b1 .nil pass0 (pa_cons (pv 2) (pa_cons pe_int pa_nil))))
        (pss_one (ps_expr (pe_bm PySem.F.plainAttrs_list PySem.F.slot_list_append PySem.F.type_list_append mt_append (pv 4) (pa_cons
          (pe_op op_cat (pe_op op_cat (pe_slice sl_list (pv 5) po_none (po_some (pv 6))) (pe_lst (pa_cons (pv 3) pa_nil))) (pe_slice sl_list (pv 5) (po_some (pv 6)) po_none)) pa_nil))))))
      (pss_cons (ps_set (i := 7) c_L_beside_one.nd rfl (Or.inr rfl)
        (pe_lc (own := [("_law_name", 8)]) (g := gName 8) (tt := tYes) rfl c_L_beside_one.nd (pi_list (pv 1)) (blkOk_by (N := n_L_beside_one) (sc := defScope s_L_beside_one) (by decide +kernel))
          (fun _ _ _ _ _ => pg_name (i := 8) c_L_beside_one.nd rfl (Or.inl rfl)) (fun _ _ _ _ _ => pts_nil) (fun _ _ _ _ _ => pe_tup (pa_cons (pv 8) (pa_cons (pv 3) pa_nil)))))
      (pss_cons (ps_if (pt_cmpR (op_neD hr.units)
          (pe_lc (own := [("_law_ranking", 5)]) (g := gName 5) rfl c_L_beside_one.nd (pi_list (pv 4)) (blkOk_by (N := n_L_beside_one) (sc := defScope s_L_beside_one) (by decide +kernel))
            (fun _ _ _ _ _ => pg_name (i := 5) c_L_beside_one.nd rfl (Or.inl rfl))
            (fun _ _ _ _ _ => pts_one (pt_cmpR op_notN (pe_call G2 hr5 (by rfl) g2 e2 b2 .nil pass0 (pa_cons (pe_callTy (r := rListOf K) cr_listOf (by rfl) T.list boot_list (pa_cons (pv 7) pa_nil)) (pa_cons (pe_callTy (r := rListOf K) cr_listOf (by rfl) T.list boot_list (pa_cons (pv 5) pa_nil)) pa_nil))) pe_non (nomark _)))
            (fun _ _ _ _ _ => pv 5)) (pe_lst pa_nil) (nomark _)) (pss_one (ps_ret pe_bl)) pss_nil)
      (pss_one (ps_ret (pe_cmpR op_eq (pe_ix ix_tup (pe_call G3 hr (by rfl) g3 e3 b3 .nil pass0 (pa_cons (pv 4) pa_nil)) pe_int (fun _ _ => rfl)) pe_str (nomark _)))))))), ?_⟩
    obtain ⟨l, hl⟩ : ∃ l, names.getLast? = some l := by
      cases e : names.getLast? with
      | none =>
        rw [List.getLast?_eq_none_iff] at e
        have := R.pos
        rw [e, List.length_nil] at this
        omega
      | some l => exact ⟨l, rfl⟩
    obtain ⟨pre, epre⟩ := List.getLast?_eq_some_iff.mp hl
    have hgt := last_gt R.nm hl
    have hlm : l ∈ names := List.mem_of_getLast? hl
    have hcpos := hpos l hlm
    have hat : atI (names.map V.int) (-1) = some (.int l) := by
      have e1 : names.map V.int = pre.map V.int ++ [.int l] := by
        rw [epre, List.map_append]
        rfl
      rw [e1]
      exact atI_last _ _
    refine ⟨_, rfl, 1, rfl, b, _, -1, _, rfl, rfl, SqL.of hN, hat, _, _, rfl, rfl, ?_⟩
    dsimp only
    generalize hc : l + 1 = c at *
    refine ⟨Nat.zero_le _, fun pf nf => ?_⟩
    have s1 : Same H (upd H pf (.lst [])) := same_upd nf
    have nfa := hL.some nf
    have hf1 : upd H pf (.lst []) pf = some (.lst ([] : List V)) := upd_same
    have nbf : b ≠ pf := ne_of_none hN nf
    have hL1 := hL.same s1
    have hN1 := s1 _ _ hN
    have x1 : SameX a H (upd H pf (.lst [])) := same_toX s1
    generalize upd H pf (.lst []) = H1 at *
    have hcn : ∀ r ∈ folk, c ∉ r := fun r hr z => by
      have := hgt c (((R.rk r hr).2 c).mp z)
      omega
    have hcnd : (names ++ [c]).Nodup := by
      rw [List.nodup_append]
      exact ⟨R.nd, by simp, fun x hx y hy e => by rw [List.mem_singleton.mp hy] at e; have := hgt x hx; omega⟩
    obtain ⟨fa, fs, rfl, nfaa, nfaf, hfa, hfs⟩ := folk_x (ns := names) hF nf R.rk
    have hfl := paired_len hfs
    refine ⟨_, rfl, fa, rfl, ⟨_, SqL.of (x1 _ _ nfaa hfa)⟩, for_rel (R := isRkX names a pf) (xs := folk) hfl (fun i σ H' => ∃ (o5 o6 : Option V) (ws : List V) (rs : List (List Int)), σ = [some (.ref fa), some (.ref b), some (.ref a), some (.int c), some (.ref pf), o5, o6, none, none] ∧ SameX a H H' ∧ Lf H' a (k + i) ∧ H' pf = some (.lst ws) ∧
        Paired (isRkX (names ++ [c]) a pf H') ws rs ∧ rs.length = i ∧ ∀ q ∈ rs, ∃ r ∈ folk, ∃ m, m ≤ 1 ∧ q = beside r c m)
      ⟨none, none, [], [], rfl, x1, hL1, hf1, .nil, rfl, fun _ z => (nomatch z)⟩ (fun i σ H' ⟨_, _, _, _, _, x, _⟩ => ⟨x _ _ nfaa hfa, paired_mono (fun _ _ r => rkX_x x r) hfs⟩) (fun i r v σ H2 hr hi rr hP => ?_) (fun σ H2 hP => ?_)⟩
    · obtain ⟨o5, o6, ws, rs, rfl, x2, hL2, hf2, hR2, hrl, hall⟩ := hP
      obtain ⟨cr, rfl, nca, ncf, hcr, gcr⟩ := rr
      have hrm := List.mem_of_getElem? hr
      have hwl := paired_len hR2
      have hrlen := R.len hrm
      refine ⟨_, rfl, a, 2, k + i, rfl, hL2, by omega, by decide, by decide, fun at_ H3 a0 a2 x3 hL3 => ?_⟩
      have x23 := x2.trans x3
      have hcr3 := x3 _ _ nca hcr
      obtain ⟨m, rfl⟩ : ∃ m : Nat, at_ = (m : Int) := ⟨at_.toNat, by omega⟩
      -- ranking[:at] + [centre] + ranking[at:]
      refine ⟨_, rfl, .inl ⟨rfl, _, SqL.of (x3 _ _ nfa hf2)⟩, _, rfl, _, rfl, _, rfl, cr, _, rfl, SqL.of hcr3, fun p1 n1 => ?_⟩
      have s1 : Same H3 (upd H3 p1 (.lst (cutV (r.map V.int) none (some (m : Int))))) := same_upd n1
      refine ⟨_, rfl, (by show 1 ≤ sizeLine; decide), fun p2 n2 => ?_⟩
      have s2 : Same (upd H3 p1 (.lst (cutV (r.map V.int) none (some (m : Int))))) (upd (upd H3 p1 (.lst (cutV (r.map V.int) none (some (m : Int))))) p2 (.lst [.int c])) := same_upd n2
      have l1 := cutV_length (r.map V.int) none (some (m : Int))
      have l2 := cutV_length (r.map V.int) (some (m : Int)) none
      rw [ints_len] at l1 l2
      refine ⟨p1, p2, _, _, rfl, rfl, s2 _ _ upd_same, upd_same, line_of (by rw [List.length_singleton]; omega), fun p3 n3 => ?_⟩
      have s3 : Same _ (upd (upd (upd H3 p1 (.lst (cutV (r.map V.int) none (some (m : Int))))) p2 (.lst [.int c])) p3 (.lst (cutV (r.map V.int) none (some (m : Int)) ++ [.int c]))) := same_upd n3
      have s13 := s1.trans (s2.trans s3)
      have h3 : upd (upd (upd H3 p1 (.lst (cutV (r.map V.int) none (some (m : Int))))) p2 (.lst [.int c])) p3 (.lst (cutV (r.map V.int) none (some (m : Int)) ++ [.int c])) p3 = some (.lst (cutV (r.map V.int) none (some (m : Int)) ++ [.int c])) := upd_same
      generalize upd (upd (upd H3 p1 (.lst (cutV (r.map V.int) none (some (m : Int))))) p2 (.lst [.int c])) p3 (.lst (cutV (r.map V.int) none (some (m : Int)) ++ [.int c])) = H4 at *
      refine ⟨_, rfl, _, rfl, _, rfl, cr, _, rfl, SqL.of (s13 _ _ hcr3), fun p4 n4 => ?_⟩
      have s4 : Same H4 (upd H4 p4 (.lst (cutV (r.map V.int) (some (m : Int)) none))) := same_upd n4
      refine ⟨p3, p4, _, _, rfl, rfl, s4 _ _ h3, upd_same, line_of (by rw [List.length_append, List.length_singleton]; omega), fun p5 n5 => ?_⟩
      have s5 : Same _ (upd (upd H4 p4 (.lst (cutV (r.map V.int) (some (m : Int)) none))) p5 (.lst (cutV (r.map V.int) none (some (m : Int)) ++ [.int c] ++ cutV (r.map V.int) (some (m : Int)) none))) := same_upd n5
      have e5 : cutV (r.map V.int) none (some (m : Int)) ++ [.int c] ++ cutV (r.map V.int) (some (m : Int)) none = (beside r c m).map V.int := by
        rw [cut_to, cut_from, beside, List.map_append, List.map_append, List.map_take, List.map_drop]
        rfl
      rw [e5] at s5 ⊢
      have s15 := s13.trans (s4.trans s5)
      have h5 : upd (upd H4 p4 (.lst (cutV (r.map V.int) (some (m : Int)) none))) p5 (.lst ((beside r c m).map V.int)) p5 = some (.lst ((beside r c m).map V.int)) := upd_same
      have n5a : p5 ≠ a := (hL3.same (s13.trans s4)).some n5
      have n5f : p5 ≠ pf := (ne_of_none ((s13.trans s4) _ _ (x3 _ _ nfa hf2)) n5).symm
      generalize upd (upd H4 p4 (.lst (cutV (r.map V.int) (some (m : Int)) none))) p5 (.lst ((beside r c m).map V.int)) = H5 at *
      refine ⟨pf, _, _, rfl, rfl, s15 _ _ (x3 _ _ nfa hf2), Nat.lt_of_le_of_lt (show ws.length ≤ 1000 by omega) (by decide), ?_⟩
      refine ⟨_, _, ws ++ [.ref p5], rs ++ [beside r c m], rfl, sameX_put (x23.trans (same_toX s15)) nf, ((hL3.same s15).upd nfa.symm).mono (by omega), upd_same, ?_, by rw [List.length_append, List.length_singleton, hrl], fun q hq => ?_⟩
      · refine paired_app (paired_mono (fun _ _ r => rkX_upd (rkX_x (same_toX s15) (rkX_x x3 r))) hR2) (.cons ⟨p5, rfl, n5a, n5f, by rw [LI, upd_ne n5f]; exact h5, beside_nd (R.rk r hrm).1 (hcn r hrm), fun x => ?_⟩ .nil)
        rw [mem_beside, List.mem_append, List.mem_singleton, (R.rk r hrm).2]
      · rcases List.mem_append.mp hq with hq | hq
        · exact hall q hq
        · rw [List.mem_singleton.mp hq]
          exact ⟨r, hrm, m, by omega, rfl⟩
    · obtain ⟨o5, o6, ws, rs, rfl, x2, hL2, hf2, hR2, hrl, hall⟩ := hP
      have hwl := paired_len hR2
      have hfol1 : 1 ≤ folk.length := List.length_pos_iff.mpr R.ne
      have hrne : rs ≠ [] := fun z => by
        rw [z, List.length_nil] at hrl
        omega
      have R' : Rk rs (names ++ [c]) := beside_rk R hgt hrne fun q hq => by
        obtain ⟨r, hr, m, _, e⟩ := hall q hq
        exact ⟨r, hr, m, e⟩
      have F' : Fk rs (names ++ [c]) := ⟨R', by omega, by rw [List.length_append, List.length_singleton]; omega, fun n hn => by
        rcases List.mem_append.mp hn with hn | hn
        · exact hpos n hn
        · rw [List.mem_singleton.mp hn]
          omega⟩
      have hRk := paired_mono (fun _ _ r => rkX_rk r) hR2
      have hN2 := x2 _ _ nba hN
      have h10 : names.length ≤ 1000000 := by omega
      -- the star
      refine ⟨_, rfl, b, rfl, ⟨_, SqL.of hN2⟩, fun D hD => lc_gen (R := isInt) isTie mono_int (fun _ => true) (fun n => (n, c)) hN2 (int_paired names) hD h10 (fun n hn v H3 N M s3 hacc rx yes no => ?_) (fun H3 us s3 hw hp3 => ?_)⟩
      · subst rx
        obtain ⟨acc, hacc⟩ := hacc
        exact ⟨rfl, lcYes ⟨_, rfl, _, rfl, (by show 2 ≤ sizeLine; decide), fun p np => yes rfl _ _ (same_upd np) fun H4 z => ⟨p, rfl, z _ _ (ne_of_none hacc np).symm upd_same⟩⟩⟩
      · rw [filter_true] at hp3
        have hS : isTies H3 (.ref D) (star names c) := ⟨D, us, rfl, hw, hp3⟩
        have hf3 := s3 _ _ hf2
        have hRk3 := paired_mono (fun _ _ r => mono_rk _ _ _ _ s3 r) hRk
        have x3 := x2.trans (same_toX s3)
        refine ⟨_, rfl, pf, rfl, ⟨_, SqL.of hf3⟩, fun D2 hD2 => lc_gen (R := isLst isInt) isRef mono_rk (fun _ => false) (fun _ => (0 : Int)) hf3 hRk3 hD2 (by omega) (fun r hr v H4 N M s4 _ rx yes no => ?_) (fun H4 us4 s4 hw4 hp4 => ?_)⟩
        · obtain ⟨cr, rfl, hcr⟩ := isLst_int rx
          obtain ⟨Dd, us', eD, hD', hp'⟩ := mono_ties _ _ _ _ s4 hS
          cases eD
          refine ⟨rfl, _, rfl, D, us', rfl, .inl (SqL.of hD'), fun p5 n5 => ?_⟩
          have s5 : Same H4 (upd H4 p5 (.lst us')) := same_upd n5
          refine ⟨_, rfl, cr, _, rfl, .inl (SqL.of (s5 _ _ hcr)), fun p6 n6 => ?_⟩
          have s6 : Same (upd H4 p5 (.lst us')) (upd (upd H4 p5 (.lst us')) p6 (.lst (r.map V.int))) := same_upd n6
          have s56 := s5.trans s6
          obtain ⟨r0, hr0, m, hm, er⟩ := hall r hr
          have hrl' := R'.len hr
          have hnl : (names ++ [c]).length ≤ 10 := F'.few
          have hn1 : 1 ≤ (names ++ [c]).length := R'.pos
          refine ⟨.ref p5, p6, star names c, r, rfl, ⟨p5, us', rfl, s6 _ _ upd_same, paired_mono (fun _ _ r => mono_tie _ _ _ _ s56 r) hp'⟩, upd_same, (R'.rk r hr).1, by omega, by omega, fun n hn => F'.pos n (((R'.rk r hr).2 n).mp hn), by rw [R'.sort hr]; exact star_tree R.nm hgt, fun H7 s7 => ⟨rfl, _, rfl, ?_⟩⟩
          rw [er, beside_falls (R.rk r0 hr0).1 (hcn r0 hr0) (fun x hx => ((R.rk r0 hr0).2 x).mp hx) hm]
          exact iteF (no rfl _ (s56.trans s7))
        · have e4 : us4 = [] := by
            rw [show (rs.filter fun _ => false) = [] from List.filter_eq_nil_iff.mpr fun _ _ => by decide] at hp4
            cases hp4
            rfl
          subst e4
          refine ⟨Nat.zero_le _, fun p5 n5 => ?_⟩
          have s5 : Same H4 (upd H4 p5 (.lst [])) := same_upd n5
          refine ⟨.list [], .list [], (enc_lst enc_int).dp _ _ _ (lst_int (ns := []) (s5 _ _ hw4)), (enc_lst enc_int).dp _ _ _ (lst_int (ns := []) upd_same), by decide, by decide, _, rfl, iteN (by rfl) ?_⟩
          have s35 := s4.trans s5
          refine ⟨_, rfl, .ref pf, rs, names ++ [c], rfl, ⟨pf, ws, rfl, s35 _ _ hf3, paired_mono (fun _ _ r => mono_rk _ _ _ _ s35 r) hRk3⟩, F', fun H7 pa pb s7 na nb hP => ?_⟩
          obtain ⟨E', eT⟩ := told_is_tree R' (E := star names c) (by unfold star; rw [List.length_map, List.length_append, List.length_singleton]) fun r hr => by
            obtain ⟨r0, hr0, m, hm, er⟩ := hall r hr
            rw [er]
            exact beside_falls (R.rk r0 hr0).1 (hcn r0 hr0) (fun x hx => ((R.rk r0 hr0).2 x).mp hx) hm
          rw [eT] at hP
          refine ⟨pa, _, 0, _, rfl, rfl, SqT.of hP.1, atI_nat (j := 0) rfl, rfl, blT (Q := Q) (by decide +kernel) (q _ (x3.trans (same_toX (s35.trans s7))))⟩
end
end K74
namespace K74
open PySem PySem.Spec PyProof.Rows L2
/-- what was not there ahead of a change at a is as it was -/
theorem same_of_x {H H1 H' : Hp} {a : Addr} (s : Same H H1) (x : SameX a H1 H') (n : H a = none) : Same H H' := fun b o e => x b o (ne_of_none e n) (s b o e)
mutual
theorem dp_of {K : PySem.W.Frag} {N : Addr → Prop} {H : Hp} : ∀ {v : V} {d : PyData}, DtN N H v d → Dp K H v d
  | _, _, .int i => .int i
  | _, _, .str x => .str x
  | _, _, .lst _ h r => .lst (SqL.of h) (dps_of r)
  | _, _, .tup _ h r => .tup (SqT.of h) (dps_of r)
theorem dps_of {K : PySem.W.Frag} {N : Addr → Prop} {H : Hp} : ∀ {vs : List V} {ds : List PyData}, DtNs N H vs ds → DpAll K H vs ds
  | _, _, .nil => .nil
  | _, _, .cons r t => .cons (dp_of r) (dps_of t)
end
def encP : Paper → PyData
  | .tree E => .tuple [.str "tree", encE E]
  | .gone ns => .tuple [.str "gone", .list (ns.map .int)]
theorem dt_paper {H : Hp} {a b : Addr} {p : Paper} (h : PaperAt H a b p) : Dt H (.ref a) (encP p) := by
  cases p with
  | tree E => exact .tup trivial h.1 (.cons (.str _) (.cons (dt_lst (fun _ _ => dt_tie) h.2) .nil))
  | gone ns => exact .tup trivial h.1 (.cons (.str _) (.cons (dt_lst (fun _ _ => dt_int) (lst_int h.2)) .nil))
theorem encP_lay (p : Paper) : (encP p).canLay0 = true := by
  cases p with
  | tree E =>
    have := lay_all (e := encT) (fun _ => rfl) E
    simp only [encP, encE, PyData.canLay0, PyData.canLayAll0, this, Bool.and_true]
    decide +kernel
  | gone ns =>
    have := lay_all (e := PyData.int) (fun _ => rfl) ns
    simp only [encP, PyData.canLay0, PyData.canLayAll0, this, Bool.and_true]
    decide +kernel
theorem encP_dep (p : Paper) : (encP p).depth ≤ 3 := by
  cases p with
  | tree E =>
    have := dep_all (e := encT) (n := 1) (fun _ => by simp [encT, PyData.depth, PyData.depthAll]) E
    simp only [encP, encE, PyData.depth, PyData.depthAll]
    omega
  | gone ns =>
    have := dep_all (e := PyData.int) (n := 0) (fun _ => by simp [PyData.depth]) ns
    simp only [encP, PyData.depth, PyData.depthAll]
    omega
theorem encP_shaped (p : Paper) : SeqAt.shaped (encP p) = true := by
  unfold SeqAt.shaped
  rw [encP_lay, decide_eq_true (Nat.le_trans (encP_dep p) (by decide))]
  rfl
theorem encP_eqv (p : Paper) : PyData.eqv (encP p) (encP p) = true := PySem.SeqAt.eqv_refl _ (encP_lay p)
theorem encF_enc {K : PySem.W.Frag} : Enc K isFolk encF 3 := enc_lst (enc_lst enc_int)
theorem encF_dep (folk : List (List Int)) : (encF folk).depth ≤ 2 := by
  have h1 : ∀ r : List Int, (PyData.list (r.map .int)).depth ≤ 1 := fun r => by
    have := dep_all (e := PyData.int) (n := 0) (fun _ => by simp [PyData.depth]) r
    simp only [PyData.depth]
    omega
  have := dep_all (e := fun r : List Int => PyData.list (r.map .int)) (n := 1) h1 folk
  simp only [encF, PyData.depth]
  omega
theorem lens_int (n : Nat) (i : Int) : Lens (.int i) n := by cases n <;> trivial
theorem lens_str (n : Nat) (x : Str) : Lens (.str x) n := by cases n <;> trivial
theorem lens_ints (n : Nat) {ns : List Int} (h : ns.length ≤ 1000) : Lens (.list (ns.map .int)) n := by
  cases n with
  | zero => trivial
  | succ n =>
    refine ⟨by rw [List.length_map]; exact h, fun d hd => ?_⟩
    obtain ⟨i, _, rfl⟩ := List.mem_map.mp hd
    exact lens_int n i
theorem lens_folk {folk : List (List Int)} (h : folk.length ≤ 1000) (h2 : ∀ r ∈ folk, r.length ≤ 1000) : Lens (encF folk) 2 := by
  refine ⟨by rw [List.length_map]; exact h, fun d hd => ?_⟩
  obtain ⟨r, hr, rfl⟩ := List.mem_map.mp hd
  exact lens_ints 1 (h2 r hr)
theorem lens_tie (n : Nat) (t : Tie) : Lens (encT t) n := by
  cases n with
  | zero => trivial
  | succ n =>
    refine ⟨by show 2 ≤ 1000; decide, fun d hd => ?_⟩
    rcases List.mem_cons.mp hd with e | hd
    · rw [e]
      exact lens_int n _
    · rw [List.mem_singleton.mp hd]
      exact lens_int n _
theorem lens_paper {p : Paper} (h : match p with | .tree E => E.length ≤ 1000 | .gone ns => ns.length ≤ 1000) : Lens (encP p) 3 := by
  cases p with
  | tree E =>
    refine ⟨by show 2 ≤ 1000; decide, fun d hd => ?_⟩
    rcases List.mem_cons.mp hd with e | hd
    · rw [e]
      exact lens_str 2 _
    · rw [List.mem_singleton.mp hd]
      refine ⟨by rw [List.length_map]; exact h, fun d hd => ?_⟩
      obtain ⟨t, _, rfl⟩ := List.mem_map.mp hd
      exact lens_tie 1 t
  | gone ns =>
    refine ⟨by show 2 ≤ 1000; decide, fun d hd => ?_⟩
    rcases List.mem_cons.mp hd with e | hd
    · rw [e]
      exact lens_str 2 _
    · rw [List.mem_singleton.mp hd]
      exact lens_ints 2 h
def isTreeP : Paper → Bool
  | .tree _ => true
  | .gone _ => false
/-- what stands at a paper's list -/
theorem paper_flat {H : Hp} {a b : Addr} {p : Paper} (h : PaperAt H a b p) : ∃ (x : Str) (xs : List V), H a = some (.tup [.str x, .ref b]) ∧ H b = some (.lst xs) ∧ (∀ y ∈ xs, isFlat1 H y) ∧ decide (V.str x = V.str "tree") = isTreeP p := by
  cases p with
  | tree E =>
    obtain ⟨h1, b', vs, e, hb, hE⟩ := h
    cases e
    refine ⟨"tree", vs, h1, hb, fun y hy => ?_, (by show decide (V.str "tree" = V.str "tree") = true; decide +kernel)⟩
    obtain ⟨t, _, q, e, ht⟩ := paired_mem hE hy
    refine .inr ⟨q, _, e, ht, fun z hz => ?_⟩
    rcases List.mem_cons.mp hz with e | hz
    · exact .inl ⟨_, e⟩
    · exact .inl ⟨_, List.mem_singleton.mp hz⟩
  | gone ns =>
    obtain ⟨h1, hb⟩ := h
    refine ⟨"gone", _, h1, hb, fun y hy => ?_, (by show decide (V.str "gone" = V.str "tree") = false; decide +kernel)⟩
    obtain ⟨i, _, e⟩ := List.mem_map.mp hy
    exact .inl (.inl ⟨i, e.symm⟩)
def goodB (folk : List (List Int)) (names : List Int) (E : List Tie) : Bool := isTree names E && folk.all fun r => (apart E r).isNone
theorem goodB_iff {folk : List (List Int)} {names : List Int} {E : List Tie} : goodB folk names E = true ↔ goodT folk names E := by
  unfold goodB goodT
  rw [Bool.and_eq_true, List.all_eq_true]
  refine and_congr Iff.rfl ⟨fun h r hr => Option.isNone_iff_eq_none.mp (h r hr), fun h r hr => Option.isNone_iff_eq_none.mpr (h r hr)⟩
theorem good_told {folk : List (List Int)} {names : List Int} (R : Rk folk names) {E : List Tie} (g : goodT folk names E) : ∃ E', told folk = .tree E' := told_is_tree R (isTree_out g.1).len g.2
theorem mono_tiesN {b : Addr} : Mono (isTiesN b) := fun _ _ _ _ s ⟨p, e, n, h⟩ => ⟨p, e, n, mono_ties _ _ _ _ s h⟩
theorem mono_rkX {ns : List Int} {a b : Addr} : Mono (isRkX ns a b) := fun _ _ _ _ s h => rkX_x (same_toX s) h
end K74
namespace K74
open PySem PySem.Spec PyProof.Rows L2
theorem rkX_all {ns : List Int} {D : Addr} {H : Hp} (n : H D = none) : ∀ {vs : List V} {rs : List (List Int)}, Paired (isLst isInt H) vs rs → (∀ r ∈ rs, Good1 ns r) → Paired (isRkX ns D D H) vs rs
  | _, _, .nil, _ => .nil
  | v :: vs, r :: rs, .cons u p, g => by
    refine .cons ?_ (rkX_all n p fun r hr => g r (List.mem_cons_of_mem _ hr))
    obtain ⟨c, rfl, hc⟩ := isLst_int u
    have := ne_of_none hc n
    exact ⟨c, rfl, this, this, hc, g r List.mem_cons_self⟩
theorem wrong_told {folk : List (List Int)} {names : List Int} (F : Fk folk names) {H : Hp} {Q : VK} (h : ∀ H', Same H H' → Q .non H') : WrongQ folk names H Q (told folk) := by
  cases e : told folk with
  | tree E =>
    obtain ⟨g1, g2⟩ := told_tree_right F.rk e
    obtain ⟨l, ok, srt, _⟩ := isTree_out g1
    have := F.few
    exact ⟨srt, fun t ht => ⟨F.pos _ (ok t ht).2.1, F.pos _ (ok t ht).2.2⟩, by omega, fun _ => h, fun n => absurd ⟨g1, g2⟩ n⟩
  | gone ns => exact ⟨told_gone_right F.rk e, h⟩
theorem told_len {folk : List (List Int)} {names : List Int} (F : Fk folk names) : match told folk with | .tree E => E.length ≤ 1000 | .gone ns => ns.length ≤ 1000 := by
  have := F.few
  cases e : told folk with
  | tree E =>
    have := (isTree_out (told_tree_right F.rk e).1).len
    show E.length ≤ 1000
    omega
  | gone ns =>
    have := (told_gone_right F.rk e).few
    show ns.length ≤ 1000
    omega
theorem mono_paper {H H' : Hp} {a b : Addr} {p : Paper} (s : Same H H') (h : PaperAt H a b p) : PaperAt H' a b p := by
  cases p with
  | tree E => exact ⟨s _ _ h.1, mono_ties _ _ _ _ s h.2⟩
  | gone ns => exact ⟨s _ _ h.1, s _ _ h.2⟩
/-- the word that a paper's copy begins with -/
theorem paper_word {H : Hp} {v : V} {p : Paper} (h : Dt H v (encP p)) : ∃ (a : Addr) (x : Str) (r : List V), v = .ref a ∧ H a = some (.tup (.str x :: r)) ∧ decide (V.str x = V.str "tree") = isTreeP p := by
  cases p with
  | tree E =>
    cases h with
    | tup _ h r =>
      cases r with
      | cons r1 r =>
        cases r1
        exact ⟨_, _, _, rfl, h, (by show decide (V.str "tree" = V.str "tree") = true; decide +kernel)⟩
  | gone ns =>
    cases h with
    | tup _ h r =>
      cases r with
      | cons r1 r =>
        cases r1
        exact ⟨_, _, _, rfl, h, (by show decide (V.str "gone" = V.str "tree") = false; decide +kernel)⟩
section
variable {P : Program} {w : World} {K : PySem.W.Frag} {mg : Str → Option Value} {base : Heap}
def spLaw (K : PySem.W.Frag) : Sp := fun vs H Q _ => ∃ (a : Addr) (ns : List Int), vs = [.ref a] ∧ SqL K H a (ns.map V.int) ∧ ns.length ≤ 63 ∧ ∀ H', Q (.bl true) H'
theorem fn_law {f0 : Addr} {fd0 : FuncData} (F0 : Fun K "law" "law" s_law f0 fd0) (T : Txt mg) (k1 : Kn P w K mg base 1 "_law_left" p_L_left spLeft) (k2 : Kn P w K mg base 2 "_law_draw" p_L_draw spDraw) (k3 : Kn P w K mg base 3 "_law_names" p_L_names spNames)
    (k4 : Kn P w K mg base 4 "_law_tree" p_L_tree spTree) (k5 : Kn P w K mg base 4 "_law_folk" p_L_folk spLFolk) (k6 : Kn P w K mg base 3 "_law_copied" p_L_copied (spCop 2)) (k7 : Kn P w K mg base 4 "_law_copied" p_L_copied (spCop 3))
    (k8 : Kn P w K mg base 6 "tree_told" p_tree_told spTold) (k9 : Kn P w K mg base 3 "_law_wrong" p_L_wrong spWrong) (k10 : Kn P w K mg base 2 "_law_apart" p_L_apart spApart) (k11 : Kn P w K mg base 4 "_law_emptied" p_L_emptied spEmp3)
    (k12 : Kn P w K mg base 2 "_law_all_trees" p_L_all_trees spAll) (k13 : Kn P w K mg base 7 "_law_beside_one" p_L_beside_one spBeside) : FnOk P w K mg base CX0 8 f0 fd0 p_law (spLaw K) := by
  obtain ⟨f1, fd1, G1, b1, g1, e1⟩ := k1
  obtain ⟨f2, fd2, G2, b2, g2, e2⟩ := k2
  obtain ⟨f3, fd3, G3, b3, g3, e3⟩ := k3
  obtain ⟨f4, fd4, G4, b4, g4, e4⟩ := k4
  obtain ⟨f5, fd5, G5, b5, g5, e5⟩ := k5
  obtain ⟨f6, fd6, G6, b6, g6, e6⟩ := k6
  obtain ⟨f7, fd7, G7, b7, g7, e7⟩ := k7
  obtain ⟨f8, fd8, G8, b8, g8, e8⟩ := k8
  obtain ⟨f9, fd9, G9, b9, g9, e9⟩ := k9
  obtain ⟨f10, fd10, G10, b10, g10, e10⟩ := k10
  obtain ⟨f11, fd11, G11, b11, g11, e11⟩ := k11
  obtain ⟨f12, fd12, G12, b12, g12, e12⟩ := k12
  obtain ⟨f13, fd13, G13, b13, g13, e13⟩ := k13
  refine F0.ok c_law (fun vs H Q E h => ?_) (fun cdv A outer s H vs Q E hr h => ?_)
  · obtain ⟨a, ns, rfl, _⟩ := h
    rfl
  · obtain ⟨sa, ss, rfl, hS, hlen, q⟩ := h
    have r1 := hr.mono (by decide : 1 ≤ 7)
    have r2 := hr.mono (by decide : 2 ≤ 7)
    have r3 := hr.mono (by decide : 3 ≤ 7)
    have r4 := hr.mono (by decide : 4 ≤ 7)
    have r6 := hr.mono (by decide : 6 ≤ 7)
    refine ⟨_, pss_cons (ps_for PassesOwn.never rfl (pi_list (pe_op op_cat (pe_lst (pa_cons pe_int pa_nil)) (pe_slice sl_list (pv 0) po_none (po_some pe_int)))) (pg_name (i := 1) c_law.nd rfl (Or.inl rfl))
      (pss_cons (ps_set (i := 2) c_law.nd rfl (Or.inl rfl) (pe_call G1 r1 (by rfl) g1 e1 b1 .nil pass0 (pa_cons (pv 1) pa_nil)))
      (pss_cons (ps_set (i := 3) c_law.nd rfl (Or.inl rfl) (pe_call G3 r3 (by rfl) g3 e3 b3 .nil pass0 (pa_cons (pv 2) (pa_cons (pe_op op_add pe_int (pe_call G2 r2 (by rfl) g2 e2 b2 .nil pass0 (pa_cons (pv 2) (pa_cons
          (pe_ix ix_list (pe_lst (pa_cons pe_int (pa_cons pe_int pa_nil))) (pe_call G2 r2 (by rfl) g2 e2 b2 .nil pass0 (pa_cons (pv 2) (pa_cons pe_int pa_nil))) (fun _ _ => rfl)) pa_nil)))) pa_nil))))
      (pss_cons (ps_set (i := 4) c_law.nd rfl (Or.inr rfl) (pe_call G4 r4 (by rfl) g4 e4 b4 .nil pass0 (pa_cons (pv 2) (pa_cons (pv 3) pa_nil))))
      (pss_cons (ps_set (i := 5) c_law.nd rfl (Or.inr rfl) (pe_call G5 r4 (by rfl) g5 e5 b5 .nil pass0 (pa_cons (pv 2) (pa_cons (pv 3) (pa_cons (pv 4) pa_nil)))))
      (pss_cons (ps_set (i := 6) c_law.nd rfl (Or.inl rfl) (pe_call G6 r3 (by rfl) g6 e6 b6 .nil pass0 (pa_cons (pv 5) pa_nil)))
      (pss_cons (ps_set (i := 7) c_law.nd rfl (Or.inl rfl) (pe_call G8 r6 (by rfl) g8 e8 b8 .nil pass0 (pa_cons (pv 6) pa_nil)))
      (pss_cons (ps_if (PW.pt (pw_or (pt_cmpR op_notN (pe_call G9 r3 (by rfl) g9 e9 b9 .nil pass0 (pa_cons (pv 5) (pa_cons (pv 7) pa_nil))) pe_non (nomark _)) (pw_or1 (pt_cmpR (op_neD hr.units) (pv 6) (pv 5) (nomark _))))) (pss_one (ps_ret pe_bl)) pss_nil)
      (pss_cons (ps_set (i := 8) c_law.nd rfl (Or.inl rfl) (pe_cmpR (op_eqD hr.units)
          (pe_lc (own := [("_law_ranking", 11)]) (g := gName 11) rfl c_law.nd (pi_list (pv 5)) (blkOk_by (N := n_law) (sc := defScope s_law) (by decide +kernel))
            (fun _ _ _ _ _ => pg_name (i := 11) c_law.nd rfl (Or.inl rfl)) (fun _ _ _ _ _ => pts_one (pt_cmpR op_notN (pe_call G10 r2 (by rfl) g10 e10 b10 .nil pass0 (pa_cons (pv 4) (pa_cons (pv 11) pa_nil))) pe_non (nomark _))) (fun _ _ _ _ _ => pv 11))
          (pe_lst pa_nil) (nomark _)))
      (C8.pss_cut (ps_if (PW.pt (pw_and (pt_val (pv 8)) (pw_and1 (pt_cmpR op_ne (pe_ix ix_tup (pv 7) pe_int (fun _ _ => rfl)) pe_str (nomark _))))) (pss_one (ps_ret pe_bl)) pss_nil)
      (pss_cons (ps_set (i := 9) c_law.nd rfl (Or.inl rfl) (pe_call G7 r4 (by rfl) g7 e7 b7 .nil pass0 (pa_cons (pv 7) pa_nil)))
      (pss_cons (ps_expr (pe_call G11 r4 (by rfl) g11 e11 b11 .nil pass0 (pa_cons (pv 7) pa_nil)))
      (pss_cons (ps_if (PW.pt (pw_or (pt_cmpR (op_neD hr.units) (pv 6) (pv 5) (nomark _)) (pw_or1 (pt_cmpR (op_neD hr.units) (pe_call G8 r6 (by rfl) g8 e8 b8 .nil pass0 (pa_cons (pv 6) pa_nil)) (pv 9) (nomark _))))) (pss_one (ps_ret pe_bl)) pss_nil)
      (C8.pss_cut (ps_if (pt_cmpR op_lt (pe_callB call_len_seq (by rfl) T.len PySem.boot_len (pa_cons (pv 3) pa_nil)) pe_int (nomark _))
          (pss_cons (ps_setLc (i := 10) (own := [("_law_some", 12)]) (g := gName 12) rfl c_law.nd rfl rfl (sw_true rfl rfl rfl (by decide +kernel)) (pi_list (pe_call G12 r2 (by rfl) g12 e12 b12 .nil pass0 (pa_cons (pv 3) pa_nil))) (blkOk_by (N := n_law) (sc := defScope s_law) (by decide +kernel))
            (fun _ _ _ _ _ => pg_name (i := 12) c_law.nd rfl (Or.inl rfl)) (fun _ _ _ _ _ => pts_one (pt_cmpR op_isN (pe_call G9 r3 (by rfl) g9 e9 b9 .nil pass0 (pa_cons (pv 5) (pa_cons (pe_tup (pa_cons pe_str (pa_cons (pv 12) pa_nil))) pa_nil))) pe_non (nomark _))) (fun _ _ _ _ _ => pv 12))
          (pss_one (ps_if (pt_cmpR op_ne (pe_cmpR (op_neD hr.units) (pv 10) (pe_lst pa_nil) (nomark _)) (pe_cmpR op_eq (pe_ix ix_tup (pv 9) pe_int (fun _ _ => rfl)) pe_str (nomark _)) (nomark _)) (pss_one (ps_ret pe_bl)) pss_nil))) pss_nil)
      (pss_one (ps_if (PW.pt (pw_and (pt_cmpR op_lt (pe_callB call_len_seq (by rfl) T.len PySem.boot_len (pa_cons (pv 3) pa_nil)) pe_int (nomark _))
          (pw_and1 (pt_not (pt_val (pe_call G13 hr (by rfl) g13 e13 b13 .nil pass0 (pa_cons (pe_call G6 r3 (by rfl) g6 e6 b6 .nil pass0 (pa_cons (pv 5) pa_nil)) (pa_cons (pv 3) (pa_cons (pv 2) pa_nil))))))))) (pss_one (ps_ret pe_bl)) pss_nil))))))))))))))))
      (pss_one (ps_ret pe_bl)), ?_⟩
    -- [13] + script[:3]
    refine ⟨(by show 1 ≤ sizeLine; decide), fun p1 n1 => ?_⟩
    have s1 : Same H (upd H p1 (.lst [.int 13])) := same_upd n1
    refine ⟨_, rfl, 3, rfl, sa, _, rfl, s1.seq hS, fun p2 n2 => ?_⟩
    have e2 : cutV (ss.map V.int) none (some 3) = (ss.take 3).map V.int := by
      rw [show (3 : Int) = ((3 : Nat) : Int) from rfl, cut_to, List.map_take]
    rw [e2]
    have s2 : Same (upd H p1 (.lst [.int 13])) (upd (upd H p1 (.lst [.int 13])) p2 (.lst ((ss.take 3).map V.int))) := same_upd (by rw [e2] at *; exact n2)
    refine ⟨p1, p2, _, _, rfl, rfl, s2 _ _ upd_same, upd_same, line_of (by rw [ints_len, List.length_singleton, List.length_take]; omega), fun p3 n3 => ?_⟩
    have hB : upd (upd (upd H p1 (.lst [.int 13])) p2 (.lst ((ss.take 3).map V.int))) p3 (.lst ([.int 13] ++ (ss.take 3).map V.int)) p3 = some (.lst ((13 :: ss.take 3).map V.int)) := upd_same
    generalize upd (upd (upd H p1 (.lst [.int 13])) p2 (.lst ((ss.take 3).map V.int))) p3 (.lst ([.int 13] ++ (ss.take 3).map V.int)) = HB at *
    refine ⟨p3, rfl, ⟨_, SqL.of hB⟩, for_rel (R := isInt) (xs := 13 :: ss.take 3) (ints_len _) (fun i σ H' => ∃ o1 o2 o3 o4 o5 o6 o7 o8 o9 o10 : Option V, σ = [some (.ref sa), o1, o2, o3, o4, o5, o6, o7, o8, o9, o10, none, none] ∧ Same HB H')
      ⟨none, none, none, none, none, none, none, none, none, none, rfl, Same.refl _⟩ (fun i σ H' ⟨_, _, _, _, _, _, _, _, _, _, _, s⟩ => ⟨s _ _ hB, int_paired _⟩) (fun i n v σ H0 hn hi rn hP => ?_) (fun σ H' hP => ?_)⟩
    · obtain ⟨o1, o2, o3, o4, o5, o6, o7, o8, o9, o10, rfl, sB⟩ := hP
      subst rn
      -- left
      refine ⟨_, rfl, n, rfl, fun H1 a s1 na hL1 => ?_⟩
      -- names
      refine ⟨_, rfl, _, rfl, (by show 2 ≤ sizeLine; decide), fun p4 n4 => ?_⟩
      have s4 : Same H1 (upd H1 p4 (.lst [.int 5, .int 10])) := same_upd n4
      have hp4 : upd H1 p4 (.lst [.int 5, .int 10]) p4 = some (.lst [.int 5, .int 10]) := upd_same
      have n4a := hL1.some n4
      have hL4 := hL1.same s4
      have s04 := s1.trans s4
      generalize upd H1 p4 (.lst [.int 5, .int 10]) = H4 at *
      refine ⟨_, rfl, a, 2, 0, rfl, hL4, by omega, by decide, by decide, fun r5 H5 r50 r52 x5 hL5 => ?_⟩
      obtain ⟨v, hv, hmem⟩ := at_int (xs := [V.int 5, V.int 10]) r50 r52
      obtain ⟨m, rfl, m1, m10⟩ : ∃ m : Int, v = .int m ∧ 1 ≤ m ∧ m ≤ 10 := by
        simp only [List.mem_cons, List.not_mem_nil, or_false] at hmem
        rcases hmem with e | e
        · exact ⟨_, e, by decide, by decide⟩
        · exact ⟨_, e, by decide, by decide⟩
      refine ⟨p4, _, r5, _, rfl, rfl, SqL.of (x5 _ _ n4a hp4), hv, a, m, 1, rfl, hL5, by omega, m1, by omega, fun r6 H6 r60 r6m x6 hL6 => ?_⟩
      obtain ⟨m', hm'⟩ : ∃ m' : Nat, 1 + r6 = (m' : Int) := ⟨(1 + r6).toNat, by omega⟩
      refine ⟨_, _, rfl, rfl, a, m', 2, (show [V.ref a, V.int (1 + r6)] = [V.ref a, V.int (m' : Int)] by rw [hm']), hL6, by omega, by omega, by omega, fun H7 pn ns x7 hL7 _ npa hN7 hsort hlen7 hpos => ?_⟩
      have hnd := sorted_nodup strictI hsort
      have x47 : SameX a H4 H7 := x5.trans (x6.trans x7)
      -- tree
      refine ⟨_, rfl, _, rfl, a, pn, ns, 22, rfl, hL7, by omega, npa.symm, hN7, hnd, by omega, by omega, hpos, fun H8 pt E x8 hL8 npt hE hTr => ?_⟩
      -- folk
      have hN8 := x8 _ _ npa hN7
      refine ⟨_, rfl, _, rfl, _, rfl, a, pn, .ref pt, ns, E, 52, rfl, hL8, by omega, npa.symm, hN8, hnd, by omega, by omega, hE, hTr, fun H9 pk rs x9 hL9 npk hFk hr1 hr20 hgood => ?_⟩
      have hN9 := x9 _ _ npa hN8
      have hE9 := hE H9 x9
      have hF9 := hFk H9 (SameX.refl _ _)
      have s09 : Same H0 H9 := same_of_x s04 (x47.trans (x8.trans x9)) na
      have Rk9 : Rk rs ns := ⟨List.length_pos_iff.mp hr1, hsort, by omega, hgood⟩
      have F : Fk rs ns := ⟨Rk9, hr20, by omega, hpos⟩
      -- handed
      refine ⟨_, rfl, .ref pk, encF rs, rfl, dt_folk hF9, encF_dep rs, lens_folk (by omega) (fun r hr => by rw [Rk9.len hr]; omega), fun H10 y s10 hy => ?_⟩
      have hY10 := folk_dt hy
      -- found
      refine ⟨_, rfl, y, rs, ns, rfl, hY10, F, fun H11 pa pb s11 npa' npb hP => ?_⟩
      have s911 := s10.trans s11
      -- what the law's look says of it
      refine ⟨_, rfl, _, rfl, .ref pk, pa, pb, rs, ns, told rs, rfl, mono_folk _ _ _ _ s911 hF9, F, hP, wrong_told F fun H12 s12 => ?_⟩
      have s912 := s911.trans s12
      have s1012 := s11.trans s12
      refine ⟨rfl, _, rfl, iteN (by decide) ?_⟩
      refine ⟨_, rfl, _, rfl, _, _, encF_enc.dp _ _ _ (mono_folk _ _ _ _ s1012 hY10), encF_enc.dp _ _ _ (mono_folk _ _ _ _ s912 hF9), (encF_enc (K := K)).shaped (by decide) _, (encF_enc (K := K)).shaped (by decide) _, _, rfl, iteN (by rw [eqv_same (K := K) encF_enc]; rfl) ?_⟩
      -- fall
      obtain ⟨pk', fs, ek, hfs, hfp⟩ := mono_folk _ _ _ _ s912 hF9
      cases ek
      have hfl := paired_len hfp
      have hE12 := mono_ties _ _ _ _ s912 hE9
      refine ⟨_, rfl, pk, rfl, ⟨_, SqL.of hfs⟩, fun D hD => lc_gen (R := isRkX ns D D) (isLst isInt) mono_rkX (fun r => (apart E r).isSome) (fun r => r) hfs (rkX_all hD hfp hgood) hD (by omega) (fun r hr v H13 N M s13 hacc rx yes no => ?_) (fun H13 us s13 hw hp13 => ?_)⟩
      · obtain ⟨c, rfl, nc, _, hc, gc⟩ := rx
        refine ⟨rfl, _, rfl, _, rfl, .ref pt, c, E, r, rfl, mono_ties _ _ _ _ s13 hE12, hc, gc.1, by rw [Rk9.len hr]; omega, fun H14 s14 => ⟨rfl, _, rfl, ?_⟩⟩
        rw [apV_none]
        cases hx : (apart E r).isSome with
        | true => exact iteT ⟨_, rfl, yes hx _ _ s14 fun H2 z => lst_int (z _ _ nc (s14 _ _ hc))⟩
        | false => exact iteF (no hx _ s14)
      rw [List.map_id'] at hp13
      refine ⟨Nat.zero_le _, fun pe ne => ?_⟩
      have s14 : Same H13 (upd H13 pe (.lst [])) := same_upd ne
      have hD14 : isFolk (upd H13 pe (.lst [])) (.ref D) (rs.filter fun r => (apart E r).isSome) := ⟨D, us, rfl, s14 _ _ hw, paired_mono (fun _ _ r => mono_rk _ _ _ _ s14 r) hp13⟩
      refine ⟨_, .list [], encF_enc.dp _ _ _ hD14, (enc_lst enc_int).dp _ _ _ (lst_int (ns := []) upd_same), (encF_enc (K := K)).shaped (by decide) _, by decide, ?_⟩
      have efall : PyData.eqv (encF (rs.filter fun r => (apart E r).isSome)) (.list []) = (rs.filter fun r => (apart E r).isSome).isEmpty := by
        unfold encF
        rw [eqv_nil]
        cases rs.filter (fun r => (apart E r).isSome) <;> rfl
      rw [efall]
      have s1214 := s13.trans s14
      generalize upd H13 pe (.lst []) = H14 at *
      have s914 := s912.trans s1214
      have s1014 := s1012.trans s1214
      have hP14 := mono_paper (s12.trans s1214) hP
      have hfall : (rs.filter fun r => (apart E r).isSome).isEmpty = true → isTreeP (told rs) = true := fun z => by
        rw [List.isEmpty_iff, List.filter_eq_nil_iff] at z
        obtain ⟨E', e⟩ := good_told Rk9 (E := E) ⟨hTr, fun r hr => by
          have := z r hr
          cases y : apart E r with
          | none => rfl
          | some m => rw [y] at this; exact absurd rfl this⟩
        rw [e]
        rfl
      generalize (rs.filter fun r => (apart E r).isSome).isEmpty = fb at *
      obtain ⟨xw, xs, hxw, hxs, hflat, hword⟩ := paper_flat hP14
      -- if fall and found[0] != 'tree'
      refine ⟨fun σ' H' => σ' = [some (.ref sa), some (.int n), some (.ref a), some (.ref pn), some (.ref pt), some (.ref pk), some y, some (.ref pa), some (.bl fb), o9, o10, none, none] ∧ H' = H14, ?_, fun σ' H' hM => ?_⟩
      · refine ⟨_, rfl, _, rfl, ite2 (fun z => ?_) (fun _ => ⟨rfl, rfl⟩)⟩
        refine ⟨_, rfl, pa, _, 0, _, rfl, rfl, SqT.of hxw, atI_nat (j := 0) rfl, rfl, _, rfl, iteN ?_ ⟨rfl, rfl⟩⟩
        rw [hword, hfall z]
        rfl
      obtain ⟨rfl, rfl⟩ := hM
      -- kept
      refine ⟨_, rfl, .ref pa, encP (told rs), rfl, dt_paper hP14, encP_dep _, lens_paper (told_len F), fun H15 yk s15 hk => ?_⟩
      -- emptied
      refine ⟨_, rfl, pa, pb, xw, xs, rfl, s15 _ _ hxw, s15 _ _ hxs, fun z hz => (hflat z hz).same s15, fun H16 x16 => ?_⟩
      have s1016 := same_of_x (s1014.trans s15) x16 npb
      have s916 := same_of_x (s914.trans s15) x16 (s10.free npb)
      have hk16 : Dt H16 yk (encP (told rs)) := hk.keep (fun _ _ => trivial) fun p o hp e => x16 p o (ne_of_none hxs hp).symm e
      -- handed != folk, or another paper is told
      refine ⟨_, rfl, _, rfl, _, _, encF_enc.dp _ _ _ (mono_folk _ _ _ _ s1016 hY10), encF_enc.dp _ _ _ (mono_folk _ _ _ _ s916 hF9), (encF_enc (K := K)).shaped (by decide) _, (encF_enc (K := K)).shaped (by decide) _, _, rfl, iteN (by rw [eqv_same (K := K) encF_enc]; rfl) ?_⟩
      refine ⟨_, rfl, y, rs, ns, rfl, mono_folk _ _ _ _ s1016 hY10, F, fun H17 pa2 pb2 s17 _ _ hP2 => ?_⟩
      refine ⟨_, rfl, encP (told rs), encP (told rs), dp_of (dt_paper hP2), dp_of (mono_dt _ _ _ _ s17 hk16), encP_shaped _, encP_shaped _, _, rfl, iteN (by rw [encP_eqv]; rfl) ?_⟩
      have s917 := s916.trans s17
      have s017 := s09.trans s917
      have hN17 := s917 _ _ hN9
      have hF17 := mono_folk _ _ _ _ s917 hF9
      have hk17 := mono_dt _ _ _ _ s17 hk16
      obtain ⟨ck, cw, cr, eck, hck, hcw⟩ := paper_word hk17
      subst eck
      refine ⟨fun σ' H' => ∃ o10, σ' = [some (.ref sa), some (.int n), some (.ref a), some (.ref pn), some (.ref pt), some (.ref pk), some y, some (.ref pa), some (.bl fb), some (.ref ck), o10, none, none] ∧ Same H17 H', ?_, fun σ' H' hM => ?_⟩
      · refine ⟨_, rfl, pn, _, rfl, .inl (SqL.of hN17), _, _, rfl, rfl, _, rfl, ite2 (fun z => ?_) (fun _ => ⟨_, rfl, Same.refl _⟩)⟩
        have z := of_decide_eq_true z
        rw [ints_len] at z
        refine ⟨_, rfl, pn, ns, rfl, hN17, hnd, hpos, Rk9.pos, by omega, fun H18 v L s18 hL okL allL lenL => ?_⟩
        obtain ⟨la, lv, rfl, hla, hlp⟩ := hL
        have s918 := s917.trans s18
        refine ⟨la, rfl, ⟨_, SqL.of hla⟩, fun D hD => lc_gen (R := isTiesN D) isTies mono_tiesN (goodB rs ns) (fun E => E) hla (paired_mono (fun _ _ r => tiesN_of hD (Same.refl _) r) hlp) hD lenL (fun E' hE' v H19 N M s19 hacc rx yes no => ?_) (fun H19 us s19 hw hp19 => ?_)⟩
        · obtain ⟨acc, hacc⟩ := hacc
          obtain ⟨c, rfl, ncD, hc⟩ := rx
          obtain ⟨k1, k2, k3⟩ := okL E' hE'
          refine ⟨rfl, _, rfl, _, rfl, (by show 2 ≤ sizeLine; decide), fun p np => ?_⟩
          have s20 : Same H19 (upd H19 p (.tup [.str "tree", .ref c])) := same_upd np
          refine ⟨.ref pk, p, c, rs, ns, .tree E', rfl, mono_folk _ _ _ _ (s918.trans (s19.trans s20)) hF9, F, ⟨upd_same, mono_ties _ _ _ _ s20 hc⟩, ⟨k1, fun t ht => ⟨hpos _ (k3 t ht).2.1, hpos _ (k3 t ht).2.2⟩, by omega, fun g H' s' => ?_, fun g H' p' s' => ?_⟩⟩
          · refine ⟨rfl, _, rfl, iteT ⟨_, rfl, yes (goodB_iff.mpr g) _ _ (s20.trans s') fun H2 x => ties_x (mono_ties _ _ _ _ (s20.trans s') hc) ncD ((s20.trans s') _ _ hacc) x⟩⟩
          · refine ⟨rfl, _, rfl, iteF (no ?_ _ (s20.trans s'))⟩
            cases e : goodB rs ns E' with
            | true => exact absurd (goodB_iff.mp e) g
            | false => rfl
        · rw [List.map_id'] at hp19
          have s1719 := s18.trans s19
          refine ⟨_, rfl, Nat.zero_le _, fun pq nq => ?_⟩
          have s20 : Same H19 (upd H19 pq (.lst [])) := same_upd nq
          have hS20 : isLst isTies (upd H19 pq (.lst [])) (.ref D) (L.filter (goodB rs ns)) := ⟨D, us, rfl, s20 _ _ hw, paired_mono (fun _ _ r => mono_ties _ _ _ _ s20 r) hp19⟩
          refine ⟨_, .list [], (enc_lst (enc_lst enc_tie)).dp _ _ _ hS20, (enc_lst enc_int).dp _ _ _ (lst_int (ns := []) upd_same), (enc_lst (enc_lst (enc_tie (K := K)))).shaped (by decide) _, by decide, ?_⟩
          rw [eqv_nil]
          refine ⟨.ref ck, rfl, ck, _, 0, _, rfl, rfl, SqT.of ((s1719.trans s20) _ _ hck), atI_nat (j := 0) rfl, rfl, rfl, _, rfl, iteN ?_ ⟨_, rfl, s1719.trans s20⟩⟩
          rw [ne_bl, hcw]
          cases e : told rs with
          | tree E0 =>
            have g := told_tree_right Rk9 e
            have hin : E0 ∈ L.filter (goodB rs ns) := List.mem_filter.mpr ⟨allL E0 g.1, goodB_iff.mpr g⟩
            cases z : L.filter (goodB rs ns) with
            | nil =>
              rw [z] at hin
              cases hin
            | cons x xs => rfl
          | gone ns' =>
            cases z : L.filter (goodB rs ns) with
            | nil => rfl
            | cons x xs =>
              have hin : x ∈ L.filter (goodB rs ns) := by
                rw [z]
                exact List.mem_cons_self
              obtain ⟨E', e'⟩ := good_told Rk9 (goodB_iff.mp (List.mem_filter.mp hin).2)
              rw [e] at e'
              cases e'
      · obtain ⟨o10', rfl, s18⟩ := hM
        have s918 := s917.trans s18
        have hN18 := s918 _ _ hN9
        have hL18 := hL9.same s918
        refine ⟨_, rfl, pn, _, rfl, .inl (SqL.of hN18), _, _, rfl, rfl, _, rfl, ite2 (fun z => ?_) (fun _ => ⟨_, _, _, _, _, _, _, _, _, _, rfl, sB.trans (s09.trans s918)⟩)⟩
        have z := of_decide_eq_true z
        rw [ints_len] at z
        refine ⟨_, rfl, .ref pk, encF rs, rfl, dt_folk (mono_folk _ _ _ _ s918 hF9), encF_dep rs, lens_folk (by omega) (fun r hr => by rw [Rk9.len hr]; omega), fun H19 y2 s19 hy2 => ?_⟩
        have hf2 : ∀ H2, SameX a H19 H2 → isFolk H2 y2 rs := fun H2 x => by
          have hz : ∀ p, H' p = none → p ≠ a := fun p hp => hL18.some hp
          exact folk_dt (hy2.keep (N' := fun _ => True) (fun _ _ => trivial) fun p o hp e => x p o (hz p hp) e)
        refine ⟨_, rfl, _, rfl, y2, pn, a, rs, ns, _, rfl, hf2, npa, s19 _ _ hN18, hL18.same s19, by decide, Rk9, hr20, by omega, hpos, fun H20 x20 => ?_⟩
        exact ⟨_, rfl, iteN rfl ⟨_, _, _, _, _, _, _, _, _, _, rfl, sB.trans (same_of_x (s09.trans (s918.trans s19)) x20 na)⟩⟩
    · obtain ⟨o1, o2, o3, o4, o5, o6, o7, o8, o9, o10, rfl, sB⟩ := hP
      exact q _
end
end K74
namespace K74
open PySem PySem.Spec PyProof.Rows L2
/-- all defs of the text but the law -/
structure Stds (K : PySem.W.Frag) (mg : Str → Option Value) : Prop where
  q_is_number : Std K mg "is_number" s_is_number
  q_are_unlike_names : Std K mg "are_unlike_names" s_are_unlike_names
  q_is_ranking : Std K mg "is_ranking" s_is_ranking
  q_is_folk : Std K mg "is_folk" s_is_folk
  q_must_be_ranking : Std K mg "must_be_ranking" s_must_be_ranking
  q_must_be_folk : Std K mg "must_be_folk" s_must_be_folk
  q_is_tie : Std K mg "is_tie" s_is_tie
  q_reached : Std K mg "reached" s_reached
  q_hang_together : Std K mg "hang_together" s_hang_together
  q_is_right_tree : Std K mg "is_right_tree" s_is_right_tree
  q_must_be_tree : Std K mg "must_be_tree" s_must_be_tree
  q_apart_at : Std K mg "apart_at" s_apart_at
  q_first_apart : Std K mg "first_apart" s_first_apart
  q_allowed : Std K mg "allowed" s_allowed
  q_hangs_at : Std K mg "hangs_at" s_hangs_at
  q_lasts : Std K mg "lasts" s_lasts
  q_taken_out : Std K mg "taken_out" s_taken_out
  q_tie_of : Std K mg "tie_of" s_tie_of
  q_tree_told : Std K mg "tree_told" s_tree_told
  q_L_mix : Std K mg "_law_mix" s_L_mix
  q_L_left : Std K mg "_law_left" s_L_left
  q_L_draw : Std K mg "_law_draw" s_L_draw
  q_L_names : Std K mg "_law_names" s_L_names
  q_L_shuffled : Std K mg "_law_shuffled" s_L_shuffled
  q_L_tree : Std K mg "_law_tree" s_L_tree
  q_L_falling : Std K mg "_law_falling" s_L_falling
  q_L_folk : Std K mg "_law_folk" s_L_folk
  q_L_together : Std K mg "_law_together" s_L_together
  q_L_apart : Std K mg "_law_apart" s_L_apart
  q_L_whole : Std K mg "_law_whole" s_L_whole
  q_L_is_tree : Std K mg "_law_is_tree" s_L_is_tree
  q_L_hangs : Std K mg "_law_hangs" s_L_hangs
  q_L_lasts : Std K mg "_law_lasts" s_L_lasts
  q_L_wrong : Std K mg "_law_wrong" s_L_wrong
  q_L_all_trees : Std K mg "_law_all_trees" s_L_all_trees
  q_L_no_ring : Std K mg "_law_no_ring" s_L_no_ring
  q_L_copied : Std K mg "_law_copied" s_L_copied
  q_L_emptied : Std K mg "_law_emptied" s_L_emptied
  q_L_beside_one : Std K mg "_law_beside_one" s_L_beside_one
theorem txt_mk {K : PySem.W.Frag} {h : Heap} {mg : Str → Option Value} (X : K.In h) (G : h.Ns mainGlobals mg) {t1 t2 : Tok} (z0 : PySem.W.nsIn K mainGlobals "isinstance" = some none) (z1 : PySem.W.nsIn K mainGlobals "int" = some none) (z2 : PySem.W.nsIn K mainGlobals "bool" = some none) (z3 : PySem.W.nsIn K mainGlobals "list" = some none) (z4 : PySem.W.nsIn K mainGlobals "tuple" = some none) (z5 : PySem.W.nsIn K mainGlobals "set" = some none) (z6 : PySem.W.nsIn K mainGlobals "dict" = some none) (z7 : PySem.W.nsIn K mainGlobals "all" = some none) (z8 : PySem.W.nsIn K mainGlobals "len" = some none) (z9 : PySem.W.nsIn K mainGlobals "sorted" = some none) (z10 : PySem.W.nsIn K mainGlobals "range" = some none) (z11 : PySem.W.nsIn K mainGlobals "min" = some none) (z12 : PySem.W.nsIn K mainGlobals "max" = some none) (z13 : PySem.W.nsIn K mainGlobals "enumerate" = some none)
    (cn : PySem.W.nsIn K mainGlobals "MOST_NAMES" = some (some (.int 10 t1))) (ch : PySem.W.nsIn K mainGlobals "MOST_HANDS" = some (some (.int 20 t2))) : Txt mg := ⟨PySem.W.mg_none_of X G z0, PySem.W.mg_none_of X G z1, PySem.W.mg_none_of X G z2, PySem.W.mg_none_of X G z3, PySem.W.mg_none_of X G z4, PySem.W.mg_none_of X G z5, PySem.W.mg_none_of X G z6, PySem.W.mg_none_of X G z7, PySem.W.mg_none_of X G z8, PySem.W.mg_none_of X G z9, PySem.W.mg_none_of X G z10, PySem.W.mg_none_of X G z11, PySem.W.mg_none_of X G z12, PySem.W.mg_none_of X G z13, ⟨t1, PySem.W.mg_of X G cn⟩, ⟨t2, PySem.W.mg_of X G ch⟩⟩
theorem std_mk {K : PySem.W.Frag} {h : Heap} {mg : Str → Option Value} (X : K.In h) (G : h.Ns mainGlobals mg) {x : Str} {st : Stmt} {f : Addr} {oc : Value} {od an : Option Addr} {osl : Array (Option Value)} {kV doc pm cdv ct : Value}
    (a : PySem.W.nsIn K mainGlobals x = some (some (.ref f))) (l : K.lookup f = some ⟨oc, od, .func (PySem.W.fnOf x x (defArgs st) (defBody st) (defScope st) .none kV doc pm an cdv ct), osl⟩) (c : PySem.W.codeIn K cdv x = true) (k : PySem.W.keepIn K (.ref f) = true) : Std K mg x st :=
  ⟨f, _, fun_mk l c k, PySem.W.mg_of X G a⟩
section
variable {P : Program} {w : World} {K : PySem.W.Frag} {mg : Str → Option Value} {base : Heap}
/-- the law keeps its promise: all walks together -/
theorem law_ok {fa : Addr} {fd : FuncData} (F : Fun K "law" "law" s_law fa fd) (T : Txt mg) (Z : Stds K mg) : FnOk P w K mg base CX0 8 fa fd p_law (spLaw K) := by
  have a1 := kn_is_number (P := P) (w := w) (base := base) Z.q_is_number T
  have a2 := kn_unl Z.q_are_unlike_names T a1
  have a3 := kn_isrk Z.q_is_ranking T a2
  have a4 := kn_isfolk Z.q_is_folk T a3
  have a5 := kn_mustf Z.q_must_be_folk T a4
  have a6 := kn_mustr Z.q_must_be_ranking T a3
  have a7 := kn_reached (P := P) (w := w) (base := base) Z.q_reached T
  have a8 := kn_hang Z.q_hang_together T a7
  have a9 := kn_apart Z.q_apart_at T a8
  have a10 := kn_istie Z.q_is_tie T a1
  have a11 := kn_right Z.q_is_right_tree T a10 a8
  have a12 := kn_mustt Z.q_must_be_tree T a11
  have a13 := kn_first Z.q_first_apart T a6 a12 a9
  have a14 := kn_allowed (P := P) (w := w) (base := base) Z.q_allowed T
  have a15 := kn_hangs Z.q_hangs_at T a14
  have a16 := kn_lasts (P := P) (w := w) (base := base) Z.q_lasts T
  have a17 := kn_taken Z.q_taken_out T a16 a15
  have a18 := kn_tieof (P := P) (w := w) (base := base) Z.q_tie_of T
  have a19 := kn_told Z.q_tree_told T a5 a17 a18
  have b1 := kn_whole (P := P) (w := w) (base := base) Z.q_L_whole T
  have b2 := kn_tog (P := P) (w := w) (base := base) Z.q_L_together T
  have b3 := kn_lapart Z.q_L_apart T b2
  have b4 := kn_lhangs (P := P) (w := w) (base := base) Z.q_L_hangs T
  have b5 := kn_llasts (P := P) (w := w) (base := base) Z.q_L_lasts T
  have b6 := kn_istree Z.q_L_is_tree T b1 b2
  have b7 := kn_wrong Z.q_L_wrong T b6 b3 b1 b5 b4
  have b8 := kn_mix (P := P) (w := w) (base := base) Z.q_L_mix T
  have b9 := kn_left (P := P) (w := w) (base := base) Z.q_L_left T
  have b10 := kn_draw Z.q_L_draw T b8
  have b11 := kn_names Z.q_L_names T b10
  have b12 := kn_shuf Z.q_L_shuffled T b10
  have b13 := kn_ltree Z.q_L_tree T b10 b12
  have b14 := kn_falling Z.q_L_falling T b10
  have b15 := kn_lfolk Z.q_L_folk T b10 b12 b14
  have b16 := kn_ring (P := P) (w := w) (base := base) Z.q_L_no_ring T
  have b17 := kn_all Z.q_L_all_trees T b16
  have c0 := kn_cop0 (P := P) (w := w) (base := base) Z.q_L_copied T
  have c1 := kn_cop 0 Z.q_L_copied T c0
  have c2 := kn_cop 1 Z.q_L_copied T c1
  have c3 := kn_cop 2 Z.q_L_copied T c2
  have e0 := kn_emp0 (P := P) (w := w) (base := base) Z.q_L_emptied T
  have e1 := kn_emp1 Z.q_L_emptied T e0
  have e2 := kn_emp2 Z.q_L_emptied T e1
  have e3 := kn_emp3 Z.q_L_emptied T e2
  have b18 := kn_beside Z.q_L_beside_one T b10 a13 a19
  exact fn_law F T b9 b10 b11 b13 b15 c2 c3 a19 b7 b3 e3 b17 b18
end
theorem all_mk {l : PySem.W.OpenLaw} {w : World} {K : PySem.W.Frag} {h : Heap} {mg : Str → Option Value} {fa f : Addr} (X : K.In h) (G : h.Ns mainGlobals mg) (hfa : mg "law" = some (.ref fa)) {oc : Value} {od an : Option Addr} {osl : Array (Option Value)} {kV doc pm cdv ct : Value}
    (a : PySem.W.nsIn K mainGlobals "law" = some (some (.ref f))) (lk : K.lookup f = some ⟨oc, od, .func (PySem.W.fnOf "law" "law" (defArgs s_law) (defBody s_law) (defScope s_law) .none kV doc pm an cdv ct), osl⟩) (c : PySem.W.codeIn K cdv "law" = true) (k : PySem.W.keepIn K (.ref f) = true)
    (T : Txt mg) (Z : Stds K mg) :
    ∃ fd : FuncData, (∀ (s : Shared) (v : Value), BindsTo s fd ⟨[v], []⟩ [("_law_script", v)]) ∧ ∀ base : Heap, K.In base → base.Ns mainGlobals mg → FnOk l.prog w K mg base CX0 8 fa fd ["_law_script"] (spLaw K) := by
  have e := hfa.symm.trans (PySem.W.mg_of X G a)
  cases e
  exact ⟨PySem.W.fnOf "law" "law" (defArgs s_law) (defBody s_law) (defScope s_law) .none kV doc pm an cdv ct, fun s v => .of_eq rfl, fun base _ _ => law_ok (fun_mk (st := s_law) lk c k) T Z⟩
theorem walk {l : PySem.W.OpenLaw} {q : Program} {loose : List Str} {XP : (Str → Option Value) → Heap → Prop} {YP : World → Heap → Prop} {d : DefRec} {K : Params → PySem.W.Frag} (hn : l.most = some 63) (hdf : d.params.defaults = [])
    (hY : ∀ (w : World) (h : Heap), YP w h → (K w.params).In h)
    (F : ∀ (w : World) (mg : Str → Option Value) (fa : Addr) (h : Heap), (K w.params).In h → h.Ns mainGlobals mg → mg d.name = some (.ref fa) →
      ∃ fd : FuncData, (∀ (s : Shared) (u : Value), BindsTo s fd ⟨[u], []⟩ [("_law_script", u)]) ∧ ∀ base : Heap, (K w.params).In base → base.Ns mainGlobals mg → FnOk l.prog w (K w.params) mg base CX0 8 fa fd ["_law_script"] (spLaw (K w.params))) :
    PySem.W.WalkO q loose XP YP l.row.toRowW d [] (fun f vs => PySem.call f vs) :=
  L2.walk_of (n := 63) (k := 8) (x := "_law_script") (CX := fun _ => CX0) (sp := fun w => spLaw (K w.params)) hn (by decide) hdf ⟨rfl, by decide, by decide⟩ hY F (fun _ _ a ns hl _ hS => ⟨a, ns, rfl, hS, hl, fun _ => rfl⟩) fun _ _ _ _ _ z => z
end K74
open PySem PySem.W PyProof.Rows in
set_option maxRecDepth 100000 in
set_option maxHeartbeats 0 in
theorem PySem.Challenge.cw_ontheline_k74_whole_tree_or_names_gone_holds : PySem.Challenge.rw_ontheline_k74_whole_tree_or_names_gone.Holds := by
  w_on; o_law; k_head; (case hw => w_witness2)
  k_fill
  refine K74.walk (l := PySem.Challenge.rw_ontheline_k74_whole_tree_or_names_gone) rfl rfl (fun w h Y => PySem.W.kIn_of Y) ?F
  case F =>
    intro w mg fa h KX G hmg
    refine' K74.all_mk KX G hmg ?a ?l ?c ?k (K74.txt_mk KX G ?z0 ?z1 ?z2 ?z3 ?z4 ?z5 ?z6 ?z7 ?z8 ?z9 ?z10 ?z11 ?z12 ?z13 ?cn ?ch) ⟨
      K74.std_mk KX G ?a0 ?l0 ?c0 ?k0,
      K74.std_mk KX G ?a1 ?l1 ?c1 ?k1,
      K74.std_mk KX G ?a2 ?l2 ?c2 ?k2,
      K74.std_mk KX G ?a3 ?l3 ?c3 ?k3,
      K74.std_mk KX G ?a4 ?l4 ?c4 ?k4,
      K74.std_mk KX G ?a5 ?l5 ?c5 ?k5,
      K74.std_mk KX G ?a6 ?l6 ?c6 ?k6,
      K74.std_mk KX G ?a7 ?l7 ?c7 ?k7,
      K74.std_mk KX G ?a8 ?l8 ?c8 ?k8,
      K74.std_mk KX G ?a9 ?l9 ?c9 ?k9,
      K74.std_mk KX G ?a10 ?l10 ?c10 ?k10,
      K74.std_mk KX G ?a11 ?l11 ?c11 ?k11,
      K74.std_mk KX G ?a12 ?l12 ?c12 ?k12,
      K74.std_mk KX G ?a13 ?l13 ?c13 ?k13,
      K74.std_mk KX G ?a14 ?l14 ?c14 ?k14,
      K74.std_mk KX G ?a15 ?l15 ?c15 ?k15,
      K74.std_mk KX G ?a16 ?l16 ?c16 ?k16,
      K74.std_mk KX G ?a17 ?l17 ?c17 ?k17,
      K74.std_mk KX G ?a18 ?l18 ?c18 ?k18,
      K74.std_mk KX G ?a19 ?l19 ?c19 ?k19,
      K74.std_mk KX G ?a20 ?l20 ?c20 ?k20,
      K74.std_mk KX G ?a21 ?l21 ?c21 ?k21,
      K74.std_mk KX G ?a22 ?l22 ?c22 ?k22,
      K74.std_mk KX G ?a23 ?l23 ?c23 ?k23,
      K74.std_mk KX G ?a24 ?l24 ?c24 ?k24,
      K74.std_mk KX G ?a25 ?l25 ?c25 ?k25,
      K74.std_mk KX G ?a26 ?l26 ?c26 ?k26,
      K74.std_mk KX G ?a27 ?l27 ?c27 ?k27,
      K74.std_mk KX G ?a28 ?l28 ?c28 ?k28,
      K74.std_mk KX G ?a29 ?l29 ?c29 ?k29,
      K74.std_mk KX G ?a30 ?l30 ?c30 ?k30,
      K74.std_mk KX G ?a31 ?l31 ?c31 ?k31,
      K74.std_mk KX G ?a32 ?l32 ?c32 ?k32,
      K74.std_mk KX G ?a33 ?l33 ?c33 ?k33,
      K74.std_mk KX G ?a34 ?l34 ?c34 ?k34,
      K74.std_mk KX G ?a35 ?l35 ?c35 ?k35,
      K74.std_mk KX G ?a36 ?l36 ?c36 ?k36,
      K74.std_mk KX G ?a37 ?l37 ?c37 ?k37,
      K74.std_mk KX G ?a38 ?l38 ?c38 ?k38⟩
    (case a => k_is)
    (case l => k_is)
    (case c => k_is)
    (case k => k_is)
    (case z0 => k_is)
    (case z1 => k_is)
    (case z2 => k_is)
    (case z3 => k_is)
    (case z4 => k_is)
    (case z5 => k_is)
    (case z6 => k_is)
    (case z7 => k_is)
    (case z8 => k_is)
    (case z9 => k_is)
    (case z10 => k_is)
    (case z11 => k_is)
    (case z12 => k_is)
    (case z13 => k_is)
    (case cn => k_is)
    (case ch => k_is)
    (case a0 => k_is)
    (case l0 => k_is)
    (case c0 => k_is)
    (case k0 => k_is)
    (case a1 => k_is)
    (case l1 => k_is)
    (case c1 => k_is)
    (case k1 => k_is)
    (case a2 => k_is)
    (case l2 => k_is)
    (case c2 => k_is)
    (case k2 => k_is)
    (case a3 => k_is)
    (case l3 => k_is)
    (case c3 => k_is)
    (case k3 => k_is)
    (case a4 => k_is)
    (case l4 => k_is)
    (case c4 => k_is)
    (case k4 => k_is)
    (case a5 => k_is)
    (case l5 => k_is)
    (case c5 => k_is)
    (case k5 => k_is)
    (case a6 => k_is)
    (case l6 => k_is)
    (case c6 => k_is)
    (case k6 => k_is)
    (case a7 => k_is)
    (case l7 => k_is)
    (case c7 => k_is)
    (case k7 => k_is)
    (case a8 => k_is)
    (case l8 => k_is)
    (case c8 => k_is)
    (case k8 => k_is)
    (case a9 => k_is)
    (case l9 => k_is)
    (case c9 => k_is)
    (case k9 => k_is)
    (case a10 => k_is)
    (case l10 => k_is)
    (case c10 => k_is)
    (case k10 => k_is)
    (case a11 => k_is)
    (case l11 => k_is)
    (case c11 => k_is)
    (case k11 => k_is)
    (case a12 => k_is)
    (case l12 => k_is)
    (case c12 => k_is)
    (case k12 => k_is)
    (case a13 => k_is)
    (case l13 => k_is)
    (case c13 => k_is)
    (case k13 => k_is)
    (case a14 => k_is)
    (case l14 => k_is)
    (case c14 => k_is)
    (case k14 => k_is)
    (case a15 => k_is)
    (case l15 => k_is)
    (case c15 => k_is)
    (case k15 => k_is)
    (case a16 => k_is)
    (case l16 => k_is)
    (case c16 => k_is)
    (case k16 => k_is)
    (case a17 => k_is)
    (case l17 => k_is)
    (case c17 => k_is)
    (case k17 => k_is)
    (case a18 => k_is)
    (case l18 => k_is)
    (case c18 => k_is)
    (case k18 => k_is)
    (case a19 => k_is)
    (case l19 => k_is)
    (case c19 => k_is)
    (case k19 => k_is)
    (case a20 => k_is)
    (case l20 => k_is)
    (case c20 => k_is)
    (case k20 => k_is)
    (case a21 => k_is)
    (case l21 => k_is)
    (case c21 => k_is)
    (case k21 => k_is)
    (case a22 => k_is)
    (case l22 => k_is)
    (case c22 => k_is)
    (case k22 => k_is)
    (case a23 => k_is)
    (case l23 => k_is)
    (case c23 => k_is)
    (case k23 => k_is)
    (case a24 => k_is)
    (case l24 => k_is)
    (case c24 => k_is)
    (case k24 => k_is)
    (case a25 => k_is)
    (case l25 => k_is)
    (case c25 => k_is)
    (case k25 => k_is)
    (case a26 => k_is)
    (case l26 => k_is)
    (case c26 => k_is)
    (case k26 => k_is)
    (case a27 => k_is)
    (case l27 => k_is)
    (case c27 => k_is)
    (case k27 => k_is)
    (case a28 => k_is)
    (case l28 => k_is)
    (case c28 => k_is)
    (case k28 => k_is)
    (case a29 => k_is)
    (case l29 => k_is)
    (case c29 => k_is)
    (case k29 => k_is)
    (case a30 => k_is)
    (case l30 => k_is)
    (case c30 => k_is)
    (case k30 => k_is)
    (case a31 => k_is)
    (case l31 => k_is)
    (case c31 => k_is)
    (case k31 => k_is)
    (case a32 => k_is)
    (case l32 => k_is)
    (case c32 => k_is)
    (case k32 => k_is)
    (case a33 => k_is)
    (case l33 => k_is)
    (case c33 => k_is)
    (case k33 => k_is)
    (case a34 => k_is)
    (case l34 => k_is)
    (case c34 => k_is)
    (case k34 => k_is)
    (case a35 => k_is)
    (case l35 => k_is)
    (case c35 => k_is)
    (case k35 => k_is)
    (case a36 => k_is)
    (case l36 => k_is)
    (case c36 => k_is)
    (case k36 => k_is)
    (case a37 => k_is)
    (case l37 => k_is)
    (case c37 => k_is)
    (case k37 => k_is)
    (case a38 => k_is)
    (case l38 => k_is)
    (case c38 => k_is)
    (case k38 => k_is)
