import PyProof.Rows.All
import Wide.All
import OpenK.AllK
import Wide.FinOn
import KE.DatumOrd
import HandS.ForMost
import HandS.Star
import HandS.IsInst
import HandS.TupAny
import PySem.Challenge.RW_temperworks_k88_whole_best_boards
set_option Elab.async false
set_option maxRecDepth 100000
/-! the mathematics of law k88: a walk over the notes layer by layer, the pairs, the best of them. No program here. -/
namespace K88
def nb (m r u n : Nat) : List Nat := [(n + r) % m, (n + (m - r)) % m, (n + u) % m, (n + (m - u)) % m]
def has : List (Nat × Nat) → Nat → Bool
  | [], _ => false
  | p :: t, q => bif Nat.beq p.1 q then true else has t q
def find : List (Nat × Nat) → Nat → Nat
  | [], _ => 0
  | p :: t, q => bif Nat.beq p.1 q then p.2 else find t q
def addQ (far : Nat) (st : List (Nat × Nat) × List Nat) (q : Nat) : List (Nat × Nat) × List Nat := bif has st.1 q then st else (st.1 ++ [(q, far)], st.2 ++ [q])
def noteQ (m r u far : Nat) (st : List (Nat × Nat) × List Nat) (n : Nat) : List (Nat × Nat) × List Nat := (nb m r u n).foldl (addQ far) st
def lev (m r u : Nat) : Nat → List (Nat × Nat) × List Nat
  | 0 => ([(0, 0)], [0])
  | k + 1 => (lev m r u k).2.foldl (noteQ m r u (k + 1)) ((lev m r u k).1, [])
def okAll (m r u : Nat) : Bool := (lev m r u m).2.isEmpty && (List.range m).all (has (lev m r u m).1)
def D (m r u : Nat) : List Nat := (List.range m).map (find (lev m r u m).1)
def F (m : Nat) (p : Nat × Nat) : Nat := (D m p.1 p.2).foldl max 0
def inner (r n : Nat) : List (Nat × Nat) := (List.range n).map fun b => (r, r + 1 + b)
def outer (h i : Nat) : List (Nat × Nat) := (List.range i).flatMap fun a => inner (a + 1) (h - (a + 1))
def isG (m : Nat) (p : Nat × Nat) : Bool := Nat.beq (Nat.gcd (Nat.gcd p.1 p.2) m) 1
def G (m : Nat) : List (Nat × Nat) := (outer (m / 2) (m / 2)).filter (isG m)
def okM (m : Nat) : Bool := (G m).all fun p => okAll m p.1 p.2
theorem okM_3 : okM 3 = true := by decide +kernel
theorem okM_4 : okM 4 = true := by decide +kernel
theorem okM_5 : okM 5 = true := by decide +kernel
theorem okM_6 : okM 6 = true := by decide +kernel
theorem okM_7 : okM 7 = true := by decide +kernel
theorem okM_8 : okM 8 = true := by decide +kernel
theorem okM_9 : okM 9 = true := by decide +kernel
theorem okM_10 : okM 10 = true := by decide +kernel
theorem okM_11 : okM 11 = true := by decide +kernel
theorem okM_12 : okM 12 = true := by decide +kernel
theorem okM_13 : okM 13 = true := by decide +kernel
theorem okM_14 : okM 14 = true := by decide +kernel
theorem okM_15 : okM 15 = true := by decide +kernel
theorem okM_16 : okM 16 = true := by decide +kernel
theorem okM_17 : okM 17 = true := by decide +kernel
theorem okM_18 : okM 18 = true := by decide +kernel
theorem okM_19 : okM 19 = true := by decide +kernel
theorem okM_20 : okM 20 = true := by decide +kernel
theorem okM_21 : okM 21 = true := by decide +kernel
theorem okM_22 : okM 22 = true := by decide +kernel
theorem okM_23 : okM 23 = true := by decide +kernel
theorem okM_24 : okM 24 = true := by decide +kernel
theorem okM_25 : okM 25 = true := by decide +kernel
theorem okM_26 : okM 26 = true := by decide +kernel
theorem all_ok {m : Nat} (h3 : 3 ≤ m) (h26 : m ≤ 26) {p : Nat × Nat} (hp : p ∈ G m) : okAll m p.1 p.2 = true := by
  have h : okM m = true := by
    have c : m = 3 ∨ m = 4 ∨ m = 5 ∨ m = 6 ∨ m = 7 ∨ m = 8 ∨ m = 9 ∨ m = 10 ∨ m = 11 ∨ m = 12 ∨ m = 13 ∨ m = 14 ∨ m = 15 ∨ m = 16 ∨ m = 17 ∨ m = 18 ∨ m = 19 ∨ m = 20 ∨ m = 21 ∨ m = 22 ∨ m = 23 ∨ m = 24 ∨ m = 25 ∨ m = 26 := by omega
    rcases c with rfl | rfl | rfl | rfl | rfl | rfl | rfl | rfl | rfl | rfl | rfl | rfl | rfl | rfl | rfl | rfl | rfl | rfl | rfl | rfl | rfl | rfl | rfl | rfl
    · exact okM_3
    · exact okM_4
    · exact okM_5
    · exact okM_6
    · exact okM_7
    · exact okM_8
    · exact okM_9
    · exact okM_10
    · exact okM_11
    · exact okM_12
    · exact okM_13
    · exact okM_14
    · exact okM_15
    · exact okM_16
    · exact okM_17
    · exact okM_18
    · exact okM_19
    · exact okM_20
    · exact okM_21
    · exact okM_22
    · exact okM_23
    · exact okM_24
    · exact okM_25
    · exact okM_26
  unfold okM at h
  rw [List.all_eq_true] at h
  exact h p hp
end K88
namespace K88
/-! ### has, find -/
theorem has_append (a b : List (Nat × Nat)) (q : Nat) : has (a ++ b) q = (has a q || has b q) := by
  induction a with
  | nil => rfl
  | cons p t ih =>
    show (bif Nat.beq p.1 q then true else has (t ++ b) q) = ((bif Nat.beq p.1 q then true else has t q) || has b q)
    cases Nat.beq p.1 q with
    | true => rfl
    | false => exact ih
/-! ### lengths -/
theorem addQ_two (far : Nat) (st : List (Nat × Nat) × List Nat) (q : Nat) (h : st.2.length ≤ st.1.length) : (addQ far st q).2.length ≤ (addQ far st q).1.length := by
  unfold addQ
  cases has st.1 q with
  | true => exact h
  | false =>
    show (st.2 ++ [q]).length ≤ (st.1 ++ [(q, far)]).length
    rw [List.length_append, List.length_append]
    exact Nat.add_le_add_right h 1
theorem addQs_two (far : Nat) (qs : List Nat) : ∀ st : List (Nat × Nat) × List Nat, st.2.length ≤ st.1.length → (qs.foldl (addQ far) st).2.length ≤ (qs.foldl (addQ far) st).1.length := by
  induction qs with
  | nil => intro st h; exact h
  | cons q qs ih =>
    intro st h
    rw [List.foldl_cons]
    exact ih _ (addQ_two far st q h)
theorem noteQs_two (m r u far : Nat) (ns : List Nat) : ∀ st : List (Nat × Nat) × List Nat, st.2.length ≤ st.1.length → (ns.foldl (noteQ m r u far) st).2.length ≤ (ns.foldl (noteQ m r u far) st).1.length := by
  induction ns with
  | nil => intro st h; exact h
  | cons n ns ih =>
    intro st h
    rw [List.foldl_cons]
    exact ih _ (addQs_two far _ st h)
theorem lev_succ (m r u k : Nat) : lev m r u (k + 1) = (lev m r u k).2.foldl (noteQ m r u (k + 1)) ((lev m r u k).1, []) := rfl
/-- an empty rim stays -/
theorem lev_stays (m r u : Nat) {k : Nat} (h : (lev m r u k).2 = []) : (lev m r u (k + 1)).1 = (lev m r u k).1 ∧ (lev m r u (k + 1)).2 = [] := by
  rw [lev_succ, h]
  exact ⟨rfl, rfl⟩
theorem lev_stays_to (m r u : Nat) {k : Nat} (h : (lev m r u k).2 = []) : ∀ j : Nat, (lev m r u (k + j)).1 = (lev m r u k).1 ∧ (lev m r u (k + j)).2 = []
  | 0 => ⟨rfl, h⟩
  | j + 1 => by
    obtain ⟨a, b⟩ := lev_stays_to m r u h j
    obtain ⟨c, d⟩ := lev_stays m r u b
    exact ⟨c.trans a, d⟩
theorem okAll_rim {m r u : Nat} (h : okAll m r u = true) : (lev m r u m).2 = [] := by
  unfold okAll at h
  rw [Bool.and_eq_true] at h
  exact List.isEmpty_iff.mp h.1
theorem okAll_has {m r u : Nat} (h : okAll m r u = true) {i : Nat} (hi : i < m) : has (lev m r u m).1 i = true := by
  unfold okAll at h
  rw [Bool.and_eq_true, List.all_eq_true] at h
  exact h.2 i (List.mem_range.mpr hi)
/-- where the rim is empty, all is as at the m-th layer -/
theorem lev_final {m r u k : Nat} (hk : k ≤ m) (e : (lev m r u k).2 = []) : (lev m r u k).1 = (lev m r u m).1 := by
  have q := lev_stays_to m r u e (m - k)
  rw [show k + (m - k) = m by omega] at q
  exact q.1.symm
theorem lev_lt {m r u k : Nat} (h : okAll m r u = true) (hk : k ≤ m) (e : (lev m r u k).2 ≠ []) : k < m := by
  by_cases q : k = m
  · subst q
    exact absurd (okAll_rim h) e
  · omega
/-! ### the keys are below m and differ: at most m -/
def Good (m : Nat) (st : List (Nat × Nat) × List Nat) : Prop := (st.1.map (·.1)).Nodup ∧ ∀ p ∈ st.1, p.1 < m
theorem has_mem {kn : List (Nat × Nat)} {q : Nat} (h : has kn q = false) : q ∉ kn.map (·.1) := by
  induction kn with
  | nil => simp
  | cons p t ih =>
    rw [List.map_cons, List.mem_cons]
    have h1 : (bif Nat.beq p.1 q then true else has t q) = false := h
    cases e : Nat.beq p.1 q with
    | true => rw [e] at h1; cases h1
    | false =>
      rw [e] at h1
      rintro (rfl | z)
      · rw [Nat.beq_refl] at e; cases e
      · exact ih h1 z
theorem addQ_good {m far : Nat} {st : List (Nat × Nat) × List Nat} {q : Nat} (h : Good m st) (hq : q < m) : Good m (addQ far st q) := by
  unfold addQ
  cases e : has st.1 q with
  | true => exact h
  | false =>
    refine ⟨?_, ?_⟩
    · show ((st.1 ++ [(q, far)]).map (·.1)).Nodup
      rw [List.map_append, List.nodup_append]
      refine ⟨h.1, by simp, ?_⟩
      intro a ha b hb z
      have hb' : b = q := by simpa using hb
      subst hb'
      subst z
      exact has_mem e ha
    · intro p hp
      have hp : p ∈ st.1 ++ [(q, far)] := hp
      rw [List.mem_append] at hp
      rcases hp with hp | hp
      · exact h.2 p hp
      · have : p = (q, far) := by simpa using hp
        subst this
        exact hq
theorem addQs_good {m far : Nat} {qs : List Nat} (hq : ∀ q ∈ qs, q < m) : ∀ {st : List (Nat × Nat) × List Nat}, Good m st → Good m (qs.foldl (addQ far) st) := by
  induction qs with
  | nil => intro st h; exact h
  | cons q qs ih =>
    intro st h
    rw [List.foldl_cons]
    exact ih (fun z hz => hq z (List.mem_cons_of_mem _ hz)) (addQ_good h (hq q List.mem_cons_self))
theorem nb_lt {m r u n : Nat} (hm : 0 < m) : ∀ q ∈ nb m r u n, q < m := by
  intro q hq
  unfold nb at hq
  simp only [List.mem_cons, List.not_mem_nil, or_false] at hq
  rcases hq with rfl | rfl | rfl | rfl <;> exact Nat.mod_lt _ hm
theorem noteQs_good {m r u far : Nat} (hm : 0 < m) {ns : List Nat} : ∀ {st : List (Nat × Nat) × List Nat}, Good m st → Good m (ns.foldl (noteQ m r u far) st) := by
  induction ns with
  | nil => intro st h; exact h
  | cons n ns ih =>
    intro st h
    rw [List.foldl_cons]
    exact ih (addQs_good (nb_lt hm) h)
theorem lev_good (m r u : Nat) (hm : 0 < m) : ∀ k : Nat, Good m ((lev m r u k).1, [])
  | 0 => by
    refine ⟨by simp [lev], ?_⟩
    intro p hp
    have : p = (0, 0) := by simpa [lev] using hp
    subst this
    exact hm
  | k + 1 => by
    have h := noteQs_good (r := r) (u := u) (far := k + 1) hm (ns := (lev m r u k).2) (lev_good m r u hm k)
    rw [← lev_succ] at h
    exact h
theorem nodup_le : ∀ (m : Nat) {xs : List Nat}, xs.Nodup → (∀ x ∈ xs, x < m) → xs.length ≤ m
  | 0, xs, _, h => by
    cases xs with
    | nil => exact Nat.le_refl _
    | cons x t => exact absurd (h x List.mem_cons_self) (Nat.not_lt_zero _)
  | m + 1, xs, hn, h => by
    have h1 : (xs.erase m).Nodup := hn.erase m
    have h2 : ∀ x ∈ xs.erase m, x < m := fun x hx => by
      have a := h x (List.mem_of_mem_erase hx)
      have b : x ≠ m := fun e => by
        subst e
        exact (List.Nodup.not_mem_erase hn) hx
      omega
    have h3 := nodup_le m h1 h2
    have h4 := List.length_erase (l := xs) (a := m)
    split at h4 <;> omega
theorem good_len {m : Nat} {st : List (Nat × Nat) × List Nat} (h : Good m st) : st.1.length ≤ m := by
  have := nodup_le m h.1 (fun x hx => by
    obtain ⟨p, hp, rfl⟩ := List.mem_map.mp hx
    exact h.2 p hp)
  rwa [List.length_map] at this
/-! ### neighbours, as Python reckons them -/
theorem nb_py {m r n : Nat} (hr : r ≤ m) : ((n : Int) + -(r : Int)) % (m : Int) = (((n + (m - r)) % m : Nat) : Int) := by
  have h : ((n + (m - r) : Nat) : Int) = (n : Int) + -(r : Int) + (m : Int) := by omega
  rw [Int.natCast_emod, h, Int.add_emod_right]
theorem nb_py2 {m r n : Nat} : ((n : Int) + (r : Int)) % (m : Int) = (((n + r) % m : Nat) : Int) := by
  rw [Int.natCast_emod, Int.natCast_add]
/-! ### the greatest -/
theorem foldl_max (xs : List Nat) : ∀ a : Nat, a ≤ xs.foldl max a ∧ (∀ x ∈ xs, x ≤ xs.foldl max a) ∧ (xs.foldl max a = a ∨ xs.foldl max a ∈ xs) := by
  induction xs with
  | nil => intro a; exact ⟨Nat.le_refl _, (fun x h => by cases h), .inl rfl⟩
  | cons x xs ih =>
    intro a
    rw [List.foldl_cons]
    obtain ⟨h1, h2, h3⟩ := ih (max a x)
    refine ⟨Nat.le_trans (Nat.le_max_left a x) h1, fun y hy => ?_, ?_⟩
    · rcases List.mem_cons.mp hy with rfl | hy
      · exact Nat.le_trans (Nat.le_max_right a y) h1
      · exact h2 y hy
    · rcases h3 with h3 | h3
      · rw [h3]
        by_cases q : a ≤ x
        · rw [Nat.max_eq_right q]; exact .inr List.mem_cons_self
        · rw [Nat.max_eq_left (by omega)]; exact .inl rfl
      · exact .inr (List.mem_cons_of_mem _ h3)
/-- the greatest of D is F -/
theorem F_is {m : Nat} {p : Nat × Nat} {M : Int} (h1 : M ∈ (D m p.1 p.2).map (fun n => ((n : Nat) : Int))) (h2 : ∀ y ∈ (D m p.1 p.2).map (fun n => ((n : Nat) : Int)), y ≤ M) : M = ((F m p : Nat) : Int) := by
  obtain ⟨x, hx, rfl⟩ := List.mem_map.mp h1
  obtain ⟨_, a2, a3⟩ := foldl_max (D m p.1 p.2) 0
  have b1 := a2 x hx
  have b2 : F m p ≤ x := by
    rcases a3 with a3 | a3
    · show (D m p.1 p.2).foldl max 0 ≤ x
      rw [a3]
      exact Nat.zero_le _
    · have := h2 _ (List.mem_map.mpr ⟨_, a3, rfl⟩)
      exact Int.ofNat_le.mp this
  have b3 : x ≤ F m p := b1
  have : x = F m p := by omega
  rw [this]
/-! ### the best layouts -/
def bstep (m : Nat) (st : Option Nat × List (Nat × Nat)) (p : Nat × Nat) : Option Nat × List (Nat × Nat) :=
  match st.1 with
  | none => (some (F m p), [p])
  | some b => if F m p < b then (some (F m p), [p]) else if F m p = b then (some b, st.2 ++ [p]) else (some b, st.2)
def best (m : Nat) (L : List (Nat × Nat)) : Option Nat × List (Nat × Nat) := L.foldl (bstep m) (none, [])
def BestIs (m : Nat) (L : List (Nat × Nat)) (st : Option Nat × List (Nat × Nat)) : Prop :=
  (L = [] ∧ st = (none, [])) ∨ ∃ μ : Nat, st = (some μ, L.filter fun p => decide (F m p = μ)) ∧ (∃ p ∈ L, F m p = μ) ∧ ∀ p ∈ L, μ ≤ F m p
theorem bstep_is {m : Nat} {L : List (Nat × Nat)} {st : Option Nat × List (Nat × Nat)} (p : Nat × Nat) (h : BestIs m L st) : BestIs m (L ++ [p]) (bstep m st p) := by
  rcases h with ⟨rfl, rfl⟩ | ⟨μ, rfl, ⟨q, hq, eq⟩, hl⟩
  · refine .inr ⟨F m p, ?_, ⟨p, by simp, rfl⟩, ?_⟩
    · show (some (F m p), [p]) = _
      rw [List.nil_append, List.filter_cons_of_pos (by simp)]
      rfl
    · intro x hx
      have : x = p := by simpa using hx
      subst this
      exact Nat.le_refl _
  · refine .inr ?_
    by_cases h1 : F m p < μ
    · refine ⟨F m p, ?_, ⟨p, by simp, rfl⟩, ?_⟩
      · show (if F m p < μ then (some (F m p), [p]) else _) = _
        rw [if_pos h1, List.filter_append, List.filter_cons_of_pos (by simp), List.filter_nil]
        have : L.filter (fun x => decide (F m x = F m p)) = [] := by
          rw [List.filter_eq_nil_iff]
          intro x hx
          have := hl x hx
          simp only [decide_eq_true_eq]
          omega
        rw [this]
        rfl
      · intro x hx
        rcases List.mem_append.mp hx with hx | hx
        · exact Nat.le_trans (Nat.le_of_lt h1) (hl x hx)
        · have : x = p := by simpa using hx
          subst this
          exact Nat.le_refl _
    · have e0 : bstep m (some μ, L.filter fun p => decide (F m p = μ)) p = if F m p = μ then (some μ, (L.filter fun p => decide (F m p = μ)) ++ [p]) else (some μ, L.filter fun p => decide (F m p = μ)) := by
        show (if F m p < μ then _ else _) = _
        rw [if_neg h1]
      refine ⟨μ, ?_, ⟨q, List.mem_append_left _ hq, eq⟩, ?_⟩
      · rw [e0, List.filter_append]
        by_cases h2 : F m p = μ
        · rw [if_pos h2, List.filter_cons_of_pos (by simpa using h2), List.filter_nil]
        · rw [if_neg h2, List.filter_cons_of_neg (by simpa using h2), List.filter_nil, List.append_nil]
      · intro x hx
        rcases List.mem_append.mp hx with hx | hx
        · exact hl x hx
        · have : x = p := by simpa using hx
          subst this
          omega
theorem best_snoc (m : Nat) (L : List (Nat × Nat)) (p : Nat × Nat) : best m (L ++ [p]) = bstep m (best m L) p := by
  unfold best
  rw [List.foldl_append, List.foldl_cons, List.foldl_nil]
theorem best_is_go (m : Nat) : ∀ (R L : List (Nat × Nat)) (st : Option Nat × List (Nat × Nat)), BestIs m L st → BestIs m (L ++ R) (R.foldl (bstep m) st)
  | [], L, st, h => by
    rw [List.append_nil]
    exact h
  | p :: R, L, st, h => by
    rw [List.foldl_cons, show L ++ p :: R = (L ++ [p]) ++ R by simp]
    exact best_is_go m R _ _ (bstep_is p h)
theorem best_is (m : Nat) (L : List (Nat × Nat)) : BestIs m L (best m L) := best_is_go m L [] (none, []) (.inl ⟨rfl, rfl⟩)
/-! ### min of the told ones -/
open PySem PySem.W in
theorem min_told : ∀ (xs : List (Int × (Int × Int))) (a : Int × (Int × Int)), (minOf a xs = a ∨ minOf a xs ∈ xs) ∧ (minOf a xs).1 ≤ a.1 ∧ ∀ y ∈ xs, (minOf a xs).1 ≤ y.1 := by
  intro xs
  induction xs with
  | nil => intro a; exact ⟨.inl rfl, Int.le_refl _, fun y h => by cases h⟩
  | cons x xs ih =>
    intro a
    have e : minOf a (x :: xs) = minOf (if DatumOrd.lt x a = true then x else a) xs := rfl
    rw [e]
    have lt1 : (DatumOrd.lt x a = true → x.1 ≤ a.1) ∧ (¬ DatumOrd.lt x a = true → a.1 ≤ x.1) := by
      have d : DatumOrd.lt x a = if x.1 = a.1 then DatumOrd.lt x.2 a.2 else decide (x.1 < a.1) := rfl
      rw [d]
      by_cases h : x.1 = a.1
      · rw [if_pos h]
        exact ⟨fun _ => by omega, fun _ => by omega⟩
      · rw [if_neg h]
        exact ⟨fun q => by have := of_decide_eq_true q; omega, fun q => by
          have : ¬ x.1 < a.1 := fun z => q (decide_eq_true z)
          omega⟩
    by_cases h : DatumOrd.lt x a = true
    · rw [if_pos h]
      obtain ⟨i1, i2, i3⟩ := ih x
      refine ⟨.inr ?_, Int.le_trans i2 (lt1.1 h), fun y hy => ?_⟩
      · rcases i1 with i1 | i1
        · rw [i1]; exact List.mem_cons_self
        · exact List.mem_cons_of_mem _ i1
      · rcases List.mem_cons.mp hy with rfl | hy
        · exact i2
        · exact i3 y hy
    · rw [if_neg h]
      obtain ⟨i1, i2, i3⟩ := ih a
      refine ⟨?_, i2, fun y hy => ?_⟩
      · rcases i1 with i1 | i1
        · exact .inl i1
        · exact .inr (List.mem_cons_of_mem _ i1)
      · rcases List.mem_cons.mp hy with rfl | hy
        · exact Int.le_trans i2 (lt1.2 h)
        · exact i3 y hy
/-- what the law tells of a pair -/
def tell (m : Nat) (p : Nat × Nat) : Int × (Int × Int) := ((F m p : Nat), ((p.1 : Nat), (p.2 : Nat)))
open PySem PySem.W in
theorem least_is {m : Nat} {L : List (Nat × Nat)} {x : Int × (Int × Int)} {xs : List (Int × (Int × Int))} (h : L.map (tell m) = x :: xs) : ∃ μ : Nat, (minOf x xs).1 = (μ : Int) ∧ best m L = (some μ, L.filter fun p => decide (F m p = μ)) := by
  rcases best_is m L with ⟨e, _⟩ | ⟨μ, e, ⟨p, hp, ep⟩, hl⟩
  · subst e
    cases h
  · refine ⟨μ, ?_, e⟩
    obtain ⟨a1, a2, a3⟩ := min_told xs x
    have all : ∀ y ∈ x :: xs, (minOf x xs).1 ≤ y.1 := fun y hy => by
      rcases List.mem_cons.mp hy with rfl | hy
      · exact a2
      · exact a3 y hy
    have mem : minOf x xs ∈ x :: xs := by
      rcases a1 with a1 | a1
      · rw [a1]; exact List.mem_cons_self
      · exact List.mem_cons_of_mem _ a1
    rw [← h] at all mem
    have b1 := all _ (List.mem_map.mpr ⟨p, hp, rfl⟩)
    obtain ⟨q, hq, eq⟩ := List.mem_map.mp mem
    have b2 := hl q hq
    rw [← eq] at b1 ⊢
    have b1 : ((F m q : Nat) : Int) ≤ ((F m p : Nat) : Int) := b1
    show ((F m q : Nat) : Int) = (μ : Int)
    omega
/-! ### the pairs, in the loops' order -/
theorem inner_succ (r n : Nat) : inner r (n + 1) = inner r n ++ [(r, r + 1 + n)] := by
  unfold inner
  rw [List.range_succ, List.map_append]
  rfl
theorem outer_succ (h i : Nat) : outer h (i + 1) = outer h i ++ inner (i + 1) (h - (i + 1)) := by
  unfold outer
  rw [List.range_succ, List.flatMap_append]
  simp
theorem outer_sub (h i j : Nat) (hi : i < h) (hj : j ≤ h - (i + 1)) : ∀ p ∈ outer h i ++ inner (i + 1) j, p ∈ outer h h := by
  have mem : ∀ (i : Nat) (p : Nat × Nat), p ∈ outer h i → ∃ a b, a < i ∧ b < h - (a + 1) ∧ p = (a + 1, a + 1 + 1 + b) := fun i p hp => by
    unfold outer at hp
    rw [List.mem_flatMap] at hp
    obtain ⟨a, ha, hp⟩ := hp
    unfold inner at hp
    obtain ⟨b, hb, rfl⟩ := List.mem_map.mp hp
    exact ⟨a, b, List.mem_range.mp ha, List.mem_range.mp hb, rfl⟩
  have mk : ∀ a b, a < h → b < h - (a + 1) → (a + 1, a + 1 + 1 + b) ∈ outer h h := fun a b ha hb => by
    unfold outer
    rw [List.mem_flatMap]
    refine ⟨a, List.mem_range.mpr ha, ?_⟩
    unfold inner
    exact List.mem_map.mpr ⟨b, List.mem_range.mpr hb, rfl⟩
  intro p hp
  rcases List.mem_append.mp hp with hp | hp
  · obtain ⟨a, b, ha, hb, rfl⟩ := mem i p hp
    exact mk a b (by omega) hb
  · unfold inner at hp
    obtain ⟨b, hb, rfl⟩ := List.mem_map.mp hp
    have := List.mem_range.mp hb
    exact mk i b hi (by omega)
theorem best_12 : best 12 (G 12) = (some 2, [(2, 3)]) := by decide +kernel
end K88
namespace K88
open PySem L2
/-! ### data made of None, ints and tuples that this call has made: it stays, since tuples never change -/
mutual
inductive Td (H : Hp) : V → PyData → Prop
  | non : Td H .non .none
  | int (i : Int) : Td H (.int i) (.int i)
  | tup {a : Addr} {xs : List V} {ds : List PyData} : H a = some (.tup xs) → ds.length ≤ 1000 → TdAll H xs ds → Td H (.ref a) (.tuple ds)
inductive TdAll (H : Hp) : List V → List PyData → Prop
  | nil : TdAll H [] []
  | cons {v : V} {vs : List V} {d : PyData} {ds : List PyData} : Td H v d → TdAll H vs ds → TdAll H (v :: vs) (d :: ds)
end
/-- the tuples stand -/
def TS (H H' : Hp) : Prop := ∀ b xs, H b = some (.tup xs) → H' b = some (.tup xs)
theorem TS.refl (H : Hp) : TS H H := fun _ _ h => h
theorem TS.trans {H H1 H2 : Hp} (a : TS H H1) (b : TS H1 H2) : TS H H2 := fun c o h => b c o (a c o h)
theorem TS.of {H H' : Hp} (h : Same H H') : TS H H' := fun b xs q => h b _ q
theorem TS.new {H : Hp} {p : Addr} (h : H p = none) (o : HO) : TS H (upd H p o) := fun b xs q => by rw [upd_ne (ne_of_none q h)]; exact q
theorem TS.lst {H : Hp} {p : Addr} {xs : List V} (h : H p = some (.lst xs)) (o : HO) : TS H (upd H p o) := fun b ys q => by rw [upd_ne (ne_of q h (by intro z; cases z))]; exact q
theorem same_new {H : Hp} {p : Addr} (h : H p = none) (o : HO) : Same H (upd H p o) := fun b u q => by rw [upd_ne (ne_of_none q h)]; exact q
mutual
theorem Td.keep {H H' : Hp} (k : TS H H') : ∀ (d : PyData) (v : V), Td H v d → Td H' v d
  | .none, _, h => by cases h; exact .non
  | .int i, _, h => by cases h; exact .int i
  | .bool _, _, h => by cases h
  | .str _, _, h => by cases h
  | .list _, _, h => by cases h
  | .dict _, _, h => by cases h
  | .tuple ds, _, h => by
    cases h with
    | tup e l t => exact .tup (k _ _ e) l (TdAll.keep k ds _ t)
theorem TdAll.keep {H H' : Hp} (k : TS H H') : ∀ (ds : List PyData) (vs : List V), TdAll H vs ds → TdAll H' vs ds
  | [], _, h => by cases h; exact .nil
  | d :: ds, _, h => by
    cases h with
    | cons a b => exact .cons (Td.keep k d _ a) (TdAll.keep k ds _ b)
end
theorem TdAll.length {H : Hp} : ∀ {ds : List PyData} {vs : List V}, TdAll H vs ds → vs.length = ds.length
  | [], _, h => by cases h; rfl
  | _ :: _, _, h => by
    cases h with
    | cons a b => rw [List.length_cons, List.length_cons, TdAll.length b]
theorem TdAll.snoc {H : Hp} {v : V} {d : PyData} : ∀ {ds : List PyData} {vs : List V}, TdAll H vs ds → Td H v d → TdAll H (vs ++ [v]) (ds ++ [d])
  | [], _, h, q => by cases h; exact .cons q .nil
  | _ :: _, _, h, q => by
    cases h with
    | cons a b => exact .cons a (TdAll.snoc b q)
theorem TdAll.append {H : Hp} {ws : List V} {es : List PyData} : ∀ {ds : List PyData} {vs : List V}, TdAll H vs ds → TdAll H ws es → TdAll H (vs ++ ws) (ds ++ es)
  | [], _, h, q => by cases h; exact q
  | _ :: _, _, h, q => by
    cases h with
    | cons a b => exact .cons a (TdAll.append b q)
theorem TdAll.get {H : Hp} : ∀ {ds : List PyData} {vs : List V} {i : Nat} {d : PyData}, TdAll H vs ds → ds[i]? = some d → ∃ v, vs[i]? = some v ∧ Td H v d
  | [], _, _, _, _, e => by simp at e
  | _ :: _, _, 0, d, h, e => by
    cases h with
    | cons a b =>
      have e := Option.some.inj (show some _ = some d from e)
      subst e
      exact ⟨_, rfl, a⟩
  | _ :: _, _, i + 1, d, h, e => by
    cases h with
    | cons a b => exact TdAll.get b (i := i) (by simpa using e)
theorem TdAll.get' {H : Hp} : ∀ {ds : List PyData} {vs : List V} {i : Nat} {v : V}, TdAll H vs ds → vs[i]? = some v → ∃ d, ds[i]? = some d ∧ Td H v d
  | [], _, _, _, h, e => by cases h; simp at e
  | _ :: _, _, 0, d, h, e => by
    cases h with
    | cons a b =>
      have e := Option.some.inj (show some _ = some d from e)
      subst e
      exact ⟨_, rfl, a⟩
  | _ :: _, _, i + 1, d, h, e => by
    cases h with
    | cons a b => exact TdAll.get' b (i := i) (by simpa using e)
mutual
theorem Td.dp {K : PySem.W.Frag} {H : Hp} : ∀ (d : PyData) (v : V), Td H v d → Dp K H v d
  | .none, _, h => by cases h; exact .non
  | .int i, _, h => by cases h; exact .int i
  | .bool _, _, h => by cases h
  | .str _, _, h => by cases h
  | .list _, _, h => by cases h
  | .dict _, _, h => by cases h
  | .tuple ds, _, h => by
    cases h with
    | tup e l t => exact .tup (SqT.of e) (TdAll.dp ds _ t)
theorem TdAll.dp {K : PySem.W.Frag} {H : Hp} : ∀ (ds : List PyData) (vs : List V), TdAll H vs ds → DpAll K H vs ds
  | [], _, h => by cases h; exact .nil
  | d :: ds, _, h => by
    cases h with
    | cons a b => exact .cons (Td.dp d _ a) (TdAll.dp ds _ b)
end
theorem Td.ty {K : PySem.W.Frag} {H : Hp} {a : Addr} {ds : List PyData} (h : Td H (.ref a) (.tuple ds)) : TyX K H (.ref a) (.type "tuple") := by
  cases h with
  | tup e l t => exact .base (.tup e)
/-! ### max of a tuple of ints -/
open PySem.W in
theorem max_ints : ∀ (xs : List Int) (a : Int), (maxOf a xs = a ∨ maxOf a xs ∈ xs) ∧ a ≤ maxOf a xs ∧ ∀ y ∈ xs, y ≤ maxOf a xs := by
  intro xs
  induction xs with
  | nil => intro a; exact ⟨.inl rfl, Int.le_refl _, fun y h => by cases h⟩
  | cons x xs ih =>
    intro a
    have e : maxOf a (x :: xs) = maxOf (if DatumOrd.lt a x = true then x else a) xs := rfl
    rw [e]
    have d : DatumOrd.lt a x = decide (a < x) := rfl
    by_cases h : DatumOrd.lt a x = true
    · rw [if_pos h]
      rw [d] at h
      have h := of_decide_eq_true h
      obtain ⟨i1, i2, i3⟩ := ih x
      refine ⟨.inr ?_, by omega, fun y hy => ?_⟩
      · rcases i1 with i1 | i1
        · rw [i1]; exact List.mem_cons_self
        · exact List.mem_cons_of_mem _ i1
      · rcases List.mem_cons.mp hy with rfl | hy
        · exact i2
        · exact i3 y hy
    · rw [if_neg h]
      rw [d] at h
      have h : ¬ a < x := fun z => h (decide_eq_true z)
      obtain ⟨i1, i2, i3⟩ := ih a
      refine ⟨?_, i2, fun y hy => ?_⟩
      · rcases i1 with i1 | i1
        · exact .inl i1
        · exact .inr (List.mem_cons_of_mem _ i1)
      · rcases List.mem_cons.mp hy with rfl | hy
        · omega
        · exact i3 y hy
section
variable {X : Cx}
def rMaxT (K : PySem.W.Frag) : List V → Hp → VK → Prop := fun vs H Q => ∃ (a : Addr) (ns : List Int), vs = [V.ref a] ∧ SqT K H a (ns.map V.int) ∧ 0 < ns.length ∧ ∀ m, m ∈ ns → (∀ y, y ∈ ns → y ≤ m) → Q (.int m) H
theorem cr_maxT (hc : X.calm = true) (hu : X.A.units + 64 < cLine) : CallR X (.builtin "max") (rMaxT X.K) := by
  intro pins s σ H vs us Q I r h
  obtain ⟨a, ns, rfl, hs, hne, q⟩ := h
  obtain ⟨its, rv, hl, _⟩ := I.tuple hs
  rw [Vals.ref1 r]
  cases ns with
  | nil => exact absurd hne (Nat.lt_irrefl 0)
  | cons x xs =>
    have hx := rv.ints
    refine PySem.W.max_tuple_datum (α := Int) (x := x) (xs := xs) (vs := its.toArray) (I.ok.hd hc) hl (PySem.W.HoldAll.of_ints hx) (by show X.A.units + 1 + 0 < cLine; omega) fun i v h' tk hi hv hk => ?_
    obtain ⟨t, rfl⟩ := PySem.W.int_of_holds hv
    obtain ⟨a1, a2, a3⟩ := max_ints xs x
    refine ⟨.int (PySem.W.maxOf x xs), H, I.kept hk, ⟨_, rfl⟩, q _ ?_ fun y hy => ?_⟩
    · rcases a1 with a1 | a1
      · rw [a1]; exact List.mem_cons_self
      · exact List.mem_cons_of_mem _ a1
    · rcases List.mem_cons.mp hy with rfl | hy
      · exact a2
      · exact a3 y hy
/-! ### min of a list of (int, (int, int)) -/
def tD (p : Int × (Int × Int)) : PyData := .tuple [.int p.1, .tuple [.int p.2.1, .int p.2.2]]
def rMinT (K : PySem.W.Frag) : List V → Hp → VK → Prop := fun vs H Q => ∃ (a : Addr) (ws : List V) (x : Int × (Int × Int)) (xs : List (Int × (Int × Int))), vs = [V.ref a] ∧ SqL K H a ws ∧ TdAll H ws ((x :: xs).map tD) ∧ ∀ v, Td H v (tD (PySem.W.minOf x xs)) → Q v H
theorem holds_one {h : Heap} {v : Value} {p q : Int × (Int × Int)} (a : PySem.W.Holds h v p) (b : PySem.W.Holds h v q) : p = q := by
  obtain ⟨as, ra⟩ := a
  obtain ⟨bs, rb⟩ := b
  have e1 := PySem.SeqAt.readOf_plain (PySem.W.Datum.plain p) ra
  have e2 := PySem.SeqAt.readOf_plain (PySem.W.Datum.plain q) rb
  have e : PySem.W.Datum.toD p = PySem.W.Datum.toD q := e1.symm.trans e2
  have z := PySem.W.Datum.eqv p q
  rw [e, PySem.W.Datum.eqv q q, decide_eq_true rfl] at z
  exact of_decide_eq_true z.symm
theorem cr_minT (hc : X.calm = true) (hu : X.A.units + 64 < cLine) : CallR X (.builtin "min") (rMinT X.K) := by
  intro pins s σ H vs us Q I r h
  obtain ⟨a, ws, x, xs, rfl, hs, ht, q⟩ := h
  obtain ⟨its, rv, hl, _⟩ := I.list hs
  rw [Vals.ref1 r]
  have hH : PySem.W.HoldAll s.heap its.toArray.toList (x :: xs) := by
    obtain ⟨as, hr⟩ := Dp.readsAll I _ ws its (TdAll.dp _ _ ht) rv
    exact ⟨as, hr⟩
  refine PySem.W.min_list_datum (α := Int × (Int × Int)) (x := x) (xs := xs) (vs := its.toArray) (I.ok.hd hc) hl.isList hH (by show X.A.units + 1 + 2 < cLine; omega) fun i v h' tk hi hv hk => ?_
  have hi' : its[i]? = some v := by simpa using hi
  obtain ⟨y, hy, hy2⟩ := hH.at (i := i) (v := v) (by simpa using hi)
  have e := holds_one (hy2.keeps hk) hv
  have hlen := rv.length
  have hil : i < ws.length := by rw [hlen]; exact (List.getElem?_eq_some_iff.mp hi').1
  obtain ⟨u, hu1, hu2⟩ := rv.get (List.getElem?_eq_getElem hil)
  rw [hi'] at hu1
  have hu1 := Option.some.inj hu1
  subst hu1
  have hyd : ((x :: xs).map tD)[i]? = some (tD y) := by rw [List.getElem?_map, hy]; rfl
  obtain ⟨w', hw, tw⟩ := ht.get hyd
  rw [List.getElem?_eq_getElem hil] at hw
  have hw := Option.some.inj hw
  subst hw
  exact ⟨_, H, I.kept hk, hu2, q _ (by rw [← e]; exact tw)⟩
end
end K88
namespace K88
open PySem L2
/-! ### the text -/
def top (i : Nat) : Stmt := PySem.Challenge.pw_temperworks_k88_whole_best_boards.main.body.getD i (.Pass ⟨0, 0, 0, 0⟩)
abbrev sIsInt : Stmt := top 4
abbrev sIsIn : Stmt := top 5
abbrev sCommon : Stmt := top 6
abbrev sNeed : Stmt := top 10
abbrev sHas : Stmt := top 11
abbrev sDist : Stmt := top 12
abbrev sBest : Stmt := top 13
abbrev sTaken : Stmt := top 15
abbrev sAlike : Stmt := top 16
abbrev sLaw : Stmt := top 17
/-! ### promises -/
def spIsInt : Sp := fun vs H Q _ => ∃ i : Int, vs = [.int i] ∧ Q (.bl true) H
def spIsIn : Sp := fun vs H Q _ => ∃ i lo hi : Int, vs = [.int i, .int lo, .int hi] ∧ lo ≤ i ∧ i ≤ hi ∧ Q (.bl true) H
def spCommon : Sp := fun vs H Q _ => ∃ a b : Nat, vs = [.int a, .int b] ∧ Q (.int (Nat.gcd a b : Nat)) H
def spNeed : Sp := fun vs H Q _ => ∃ m r u : Nat, vs = [.int m, .int r, .int u] ∧ 1 ≤ m ∧ m ≤ 200 ∧ r ≤ 200 ∧ u ≤ 200 ∧ Q .non H
def spHas : Sp := fun vs H Q _ => ∃ m r u : Nat, vs = [.int m, .int r, .int u] ∧ 1 ≤ m ∧ m ≤ 200 ∧ r ≤ 200 ∧ u ≤ 200 ∧ Q (.bl (isG m (r, u))) H
section
variable {P : Program} {w : World} {K : PySem.W.Frag} {mg : Str → Option Value} {base : Heap}
/-! ### is_int -/
theorem scIsInt : FnScope ["value"] ["value"] (defScope sIsInt) := ⟨rfl, rfl, rfl, by decide +kernel, rfl, by decide +kernel, by decide +kernel⟩
theorem ok_is_int {f : Addr} {fd : FuncData} (F : Fun K "is_int" "is_int" sIsInt f fd) (mi : mg "isinstance" = none) (mt : mg "int" = none) (mb : mg "bool" = none) : FnOk P w K mg base CX0 1 f fd ["value"] spIsInt := by
  refine F.ok scIsInt (fun vs H Q E h => ?_) (fun cdv A outer s H vs Q E hr h => ?_)
  · obtain ⟨i, rfl, _⟩ := h
    rfl
  · obtain ⟨i, rfl, q⟩ := h
    refine ⟨_, pss_one (ps_ret (pe_and (pe_callB call_isi (by rfl) mi (by decide +kernel) (pa_cons (pv 0) (pa_cons (pe_bltn (v := .ty "int") (by rfl) mt (by decide +kernel) rfl) pa_nil)))
      (pe_one (pe_not (pe_callB call_isi (by rfl) mi (by decide +kernel) (pa_cons (pv 0) (pa_cons (pe_bltn (v := .ty "bool") (by rfl) mb (by decide +kernel) rfl) pa_nil))))))), ?_⟩
    refine ⟨_, rfl, .int i, .ty "int", .type "int", .type "int", true, rfl, .ty _, .base (.int i), kit_ty (by decide +kernel), _, rfl, iteT ?_⟩
    refine ⟨_, rfl, .int i, .ty "bool", .type "int", .type "bool", false, rfl, .ty _, .base (.int i), kit_ty (by decide +kernel), _, rfl, ?_⟩
    exact q
/-! ### is_in -/
theorem scIsIn : FnScope ["value", "least", "most"] ["value", "least", "most"] (defScope sIsIn) := ⟨rfl, rfl, rfl, by decide +kernel, rfl, by decide +kernel, by decide +kernel⟩
theorem ok_is_in {f g : Addr} {fd gd : FuncData} (F : Fun K "is_in" "is_in" sIsIn f fd) (G : FnOk P w K mg base CX0 1 g gd ["value"] spIsInt) (bG : Binds K gd ["value"] []) (kG : PySem.W.keepIn K (.ref g) = true) (mG : mg "is_int" = some (.ref g)) :
    FnOk P w K mg base CX0 2 f fd ["value", "least", "most"] spIsIn := by
  refine F.ok scIsIn (fun vs H Q E h => ?_) (fun cdv A outer s H vs Q E hr h => ?_)
  · obtain ⟨i, lo, hi, rfl, _⟩ := h
    rfl
  · obtain ⟨i, lo, hi, rfl, h1, h2, q⟩ := h
    refine ⟨_, pss_one (ps_ret (pe_and (pe_call G hr (by rfl) mG kG bG .nil pass0 (pa_cons (pv 0) pa_nil)) (pe_one (pe_chain op_le op_le (pv 1) (pv 0) (pv 2))))), ?_⟩
    refine ⟨_, rfl, i, rfl, _, rfl, iteT ?_⟩
    refine ⟨_, rfl, _, rfl, _, _, rfl, rfl, _, rfl, ?_⟩
    rw [decide_eq_true h1]
    refine iteT ⟨_, rfl, _, _, rfl, rfl, ?_⟩
    show Q (.bl (decide (i ≤ hi))) H
    rw [decide_eq_true h2]
    exact q
/-! ### common -/
theorem scCommon : FnScope ["one", "other"] ["one", "other"] (defScope sCommon) := ⟨rfl, rfl, rfl, by decide +kernel, rfl, by decide +kernel, by decide +kernel⟩
theorem ok_common {f : Addr} {fd : FuncData} (F : Fun K "common" "common" sCommon f fd) (ma : mg "abs" = none) : FnOk P w K mg base CX0 1 f fd ["one", "other"] spCommon := by
  refine F.ok scCommon (fun vs H Q E h => ?_) (fun cdv A outer s H vs Q E hr h => ?_)
  · obtain ⟨a, b, rfl, _⟩ := h
    rfl
  · obtain ⟨a, b, rfl, q⟩ := h
    refine ⟨_, pss_cons (ps_par (i := 0) (j := 1) rfl scCommon.nd rfl rfl (by decide) rfl rfl (pa_cons (pe_callB call_abs (by rfl) ma (by decide +kernel) (pa_cons (pv 0) pa_nil)) (pa_cons (pe_callB call_abs (by rfl) ma (by decide +kernel) (pa_cons (pv 1) pa_nil)) pa_nil)) (by rfl))
      (pss_cons (ps_while PassesOwn.never (pt_cmpR op_ne (pv 1) pe_int (nomark _)) (pss_one (ps_par (i := 0) (j := 1) rfl scCommon.nd rfl rfl (by decide) rfl rfl (pa_cons (pv 1) (pa_cons (pe_op op_mod (pv 0) (pv 1)) pa_nil)) (by rfl))))
      (pss_one (ps_ret (pv 0)))), ?_⟩
    refine ⟨_, rfl, _, rfl, _, rfl, _, rfl, _, _, rfl, ?_⟩
    rw [if_neg (by omega : ¬ (a : Int) < 0), if_neg (by omega : ¬ (b : Int) < 0)]
    refine ⟨fun k σ H' => ∃ x y : Nat, σ = [some (.int x), some (.int y)] ∧ y = k ∧ Nat.gcd x y = Nat.gcd a b ∧ H' = H, ⟨b, a, b, rfl, rfl, rfl, rfl⟩, ?_⟩
    rintro k σ H' ⟨x, y, rfl, rfl, e, rfl⟩
    refine ⟨_, rfl, rfl, _, rfl, ?_⟩
    by_cases hy : y = 0
    · subst hy
      rw [show (!decide (V.int ((0 : Nat) : Int) = V.int 0)) = false by rfl]
      refine iteF ?_
      refine ⟨_, rfl, ?_⟩
      rw [Nat.gcd_zero_right] at e
      rw [e]
      exact q
    · rw [show (!decide (V.int ((y : Nat) : Int) = V.int 0)) = true by
        have : ¬ V.int ((y : Nat) : Int) = V.int 0 := fun z => by
          injection z with z
          omega
        rw [decide_eq_false this]
        rfl]
      refine iteT ?_
      refine ⟨fun σ' H'' => ∃ x' y' : Nat, σ' = [some (.int x'), some (.int y')] ∧ y' < y ∧ Nat.gcd x' y' = Nat.gcd a b ∧ H'' = H', fun σ' H'' hN => ?_, ?_⟩
      · obtain ⟨x', y', e1, lt, e2, e3⟩ := hN
        exact ⟨y', lt, x', y', e1, rfl, e2, e3⟩
      · refine ⟨_, rfl, _, rfl, _, rfl, _, _, rfl, rfl, (by show (0 : Int) < (y : Int); omega), _, _, rfl, ?_⟩
        refine ⟨y, x % y, ?_, Nat.mod_lt _ (by omega), ?_, rfl⟩
        · rw [Int.natCast_emod]
          rfl
        · rw [← e, Nat.gcd_comm x y, Nat.gcd_rec y x, Nat.gcd_comm]
/-! ### need_layout -/
theorem scNeed : FnScope ["many", "right", "up"] ["many", "right", "up"] (defScope sNeed) := ⟨rfl, rfl, rfl, by decide +kernel, rfl, by decide +kernel, by decide +kernel⟩
theorem ok_need {f g : Addr} {fd gd : FuncData} {t : Tok} (F : Fun K "need_layout" "need_layout" sNeed f fd) (G : FnOk P w K mg base CX0 2 g gd ["value", "least", "most"] spIsIn) (bG : Binds K gd ["value", "least", "most"] []) (kG : PySem.W.keepIn K (.ref g) = true) (mG : mg "is_in" = some (.ref g))
    (mS : mg "MOST_STEPS" = some (.int 200 t)) : FnOk P w K mg base CX0 3 f fd ["many", "right", "up"] spNeed := by
  refine F.ok scNeed (fun vs H Q E h => ?_) (fun cdv A outer s H vs Q E hr h => ?_)
  · obtain ⟨m, r, u, rfl, _⟩ := h
    rfl
  · obtain ⟨m, r, u, rfl, h1, h2, h3, h4, q⟩ := h
    refine ⟨_, pss_cons (ps_if (pt_not (pt_val (pe_call G hr (by rfl) mG kG bG .nil pass0 (pa_cons (pv 0) (pa_cons pe_int (pa_cons (pe_glob (v := .int 200) (by rfl) mS ⟨_, rfl⟩) pa_nil)))))) (pss_one ps_never) pss_nil)
      (pss_one (ps_if (PW.pt (pw_or (pt_not (pt_val (pe_call G hr (by rfl) mG kG bG .nil pass0 (pa_cons (pv 1) (pa_cons (pe_un un_neg (pe_glob (v := .int 200) (by rfl) mS ⟨_, rfl⟩)) (pa_cons (pe_glob (v := .int 200) (by rfl) mS ⟨_, rfl⟩) pa_nil))))))
        (pw_or1 (pt_not (pt_val (pe_call G hr (by rfl) mG kG bG .nil pass0 (pa_cons (pv 2) (pa_cons (pe_un un_neg (pe_glob (v := .int 200) (by rfl) mS ⟨_, rfl⟩)) (pa_cons (pe_glob (v := .int 200) (by rfl) mS ⟨_, rfl⟩) pa_nil))))))))) (pss_one ps_never) pss_nil)), ?_⟩
    refine ⟨_, rfl, _, _, _, rfl, by omega, by omega, _, rfl, iteF ?_⟩
    refine ⟨_, rfl, _, rfl, _, _, _, rfl, by omega, by omega, _, rfl, iteF ?_⟩
    refine ⟨_, rfl, _, rfl, _, _, _, rfl, by omega, by omega, _, rfl, iteF ?_⟩
    exact q
/-! ### has_all -/
theorem gcd_test (n : Nat) : decide (V.int ((n : Nat) : Int) = V.int 1) = Nat.beq n 1 := by
  by_cases h : n = 1
  · subst h
    rfl
  · have h1 : ¬ V.int ((n : Nat) : Int) = V.int 1 := fun z => by
      injection z with z
      omega
    rw [decide_eq_false h1]
    cases e : Nat.beq n 1 with
    | false => rfl
    | true => exact absurd (Nat.eq_of_beq_eq_true e) h
theorem scHas : FnScope ["many", "right", "up"] ["many", "right", "up"] (defScope sHas) := ⟨rfl, rfl, rfl, by decide +kernel, rfl, by decide +kernel, by decide +kernel⟩
theorem ok_has {f g c : Addr} {fd gd cd : FuncData} (F : Fun K "has_all" "has_all" sHas f fd) (G : FnOk P w K mg base CX0 3 g gd ["many", "right", "up"] spNeed) (bG : Binds K gd ["many", "right", "up"] []) (kG : PySem.W.keepIn K (.ref g) = true) (mG : mg "need_layout" = some (.ref g))
    (C : FnOk P w K mg base CX0 1 c cd ["one", "other"] spCommon) (bC : Binds K cd ["one", "other"] []) (kC : PySem.W.keepIn K (.ref c) = true) (mC : mg "common" = some (.ref c)) : FnOk P w K mg base CX0 4 f fd ["many", "right", "up"] spHas := by
  refine F.ok scHas (fun vs H Q E h => ?_) (fun cdv A outer s H vs Q E hr h => ?_)
  · obtain ⟨m, r, u, rfl, _⟩ := h
    rfl
  · obtain ⟨m, r, u, rfl, h1, h2, h3, h4, q⟩ := h
    have hr1 : Room 1 _ := hr.mono (by decide)
    refine ⟨_, pss_cons (ps_expr (pe_call G hr (by rfl) mG kG bG .nil pass0 (pa_cons (pv 0) (pa_cons (pv 1) (pa_cons (pv 2) pa_nil)))))
      (pss_one (ps_ret (pe_cmpR op_eq (pe_call C hr1 (by rfl) mC kC bC .nil pass0 (pa_cons (pe_call C hr1 (by rfl) mC kC bC .nil pass0 (pa_cons (pv 1) (pa_cons (pv 2) pa_nil))) (pa_cons (pv 0) pa_nil))) pe_int (nomark _)))), ?_⟩
    refine ⟨_, rfl, _, rfl, _, rfl, m, r, u, rfl, h1, h2, h3, h4, ?_⟩
    refine ⟨_, rfl, _, rfl, r, u, rfl, _, rfl, Nat.gcd r u, m, rfl, rfl, ?_⟩
    rw [gcd_test]
    exact q
end
end K88
namespace K88
open PySem L2
/-! ### the dict and the lists -/
def kvL (kn : List (Nat × Nat)) : List (Key × V) := kn.map fun p => (Sum.inl (p.1 : Int), V.int (p.2 : Int))
def nsL (ns : List Nat) : List V := ns.map fun (n : Nat) => V.int (n : Int)
theorem valV_kv (q : Nat) : ∀ kn : List (Nat × Nat), valV (kvL kn) (Sum.inl (q : Int) : Key) = if has kn q = true then some (V.int (find kn q : Nat)) else none
  | [] => rfl
  | p :: t => by
    show valV ((Sum.inl (p.1 : Int), V.int (p.2 : Int)) :: kvL t) (Sum.inl (q : Int) : Key) = if (bif Nat.beq p.1 q then true else has t q) = true then some (V.int ((bif Nat.beq p.1 q then p.2 else find t q : Nat) : Int)) else none
    by_cases e : p.1 = q
    · subst e
      rw [valV_pos rfl, Nat.beq_refl]
      rfl
    · have h1 : ¬ (Sum.inl (p.1 : Int) : Key) = Sum.inl (q : Int) := fun z => e (by injection z with z; omega)
      have h2 : Nat.beq p.1 q = false := by
        cases z : Nat.beq p.1 q with
        | false => rfl
        | true => exact absurd (Nat.eq_of_beq_eq_true z) e
      rw [valV_neg (p := ((Sum.inl (p.1 : Int), V.int (p.2 : Int)) : Key × V)) h1, valV_kv q t, h2]
      rfl
/-- the state of the two inner loops -/
structure At (m : Nat) (H0 H' : Hp) (kd lt l : Addr) (st : List (Nat × Nat) × List Nat) (rim : List Nat) : Prop where
  sm : Same H0 H'
  dk : H' kd = some (.dK (kvL st.1))
  la : H' lt = some (.lst (nsL st.2))
  ri : H' l = some (.lst (nsL rim))
  ne : l ≠ lt
  gd : Good m st
  tw : st.2.length ≤ st.1.length
theorem At.keep {m : Nat} {H0 H1 H2 : Hp} {kd lt l : Addr} {st : List (Nat × Nat) × List Nat} {rim : List Nat} (a : At m H0 H1 kd lt l st rim) (s : Same H1 H2) : At m H0 H2 kd lt l st rim :=
  ⟨a.sm.trans s, s _ _ a.dk, s _ _ a.la, s _ _ a.ri, a.ne, a.gd, a.tw⟩
theorem At.small {m : Nat} {H0 H1 : Hp} {kd lt l : Addr} {st : List (Nat × Nat) × List Nat} {rim : List Nat} (a : At m H0 H1 kd lt l st rim) (hm : m ≤ 200) : (kvL st.1).length < sizeLine ∧ (nsL st.2).length < sizeLine := by
  have h1 := good_len a.gd
  have h2 := a.tw
  unfold kvL nsL
  rw [List.length_map, List.length_map]
  exact ⟨small1000 (by omega), small1000 (by omega)⟩
theorem At.add {m : Nat} {H0 H1 : Hp} {kd lt l : Addr} {st : List (Nat × Nat) × List Nat} {rim : List Nat} (a : At m H0 H1 kd lt l st rim) (n1 : H0 kd = none) (n2 : H0 lt = none) {far q : Nat} (hq : q < m) {z : Int} (hz : z = (q : Int)) (e : has st.1 q = false) :
    At m H0 (upd (upd H1 kd (.dK (putK (kvL st.1) (Sum.inl z : Key) (.int (far : Int))))) lt (.lst (nsL st.2 ++ [.int z]))) kd lt l (addQ far st q) rim := by
  subst hz
  have ev : valV (kvL st.1) (Sum.inl (q : Int) : Key) = none := by
    rw [valV_kv, e]
    rfl
  have e2 : addQ far st q = (st.1 ++ [(q, far)], st.2 ++ [q]) := by
    unfold addQ
    rw [e]
    rfl
  have nkl : kd ≠ lt := ne_of a.dk a.la (by intro z; cases z)
  have nkr : l ≠ kd := ne_of a.ri a.dk (by intro z; cases z)
  refine ⟨fun b o h => ?_, ?_, ?_, ?_, a.ne, addQ_good a.gd hq, addQ_two far st q a.tw⟩
  · rw [upd_ne (ne_of_none h n2), upd_ne (ne_of_none h n1)]
    exact a.sm b o h
  · rw [upd_ne nkl, upd_same, putK_new _ ev, e2]
    unfold kvL
    rw [List.map_append]
    rfl
  · rw [upd_same, e2]
    unfold nsL
    rw [List.map_append]
    rfl
  · rw [upd_ne a.ne, upd_ne nkr]
    exact a.ri
/-- the four steps from a note -/
def stepsOf (r u : Nat) : List V := [V.int (r : Int), V.int (-(r : Int)), V.int (u : Int), V.int (-(u : Int))]
theorem step_at {m r u n : Nat} (hr : r ≤ m) (hu : u ≤ m) {j : Nat} {x : V} (h : (stepsOf r u)[j]? = some x) : ∃ (d : Int) (q : Nat), x = .int d ∧ (nb m r u n)[j]? = some q ∧ ((n : Int) + d) % (m : Int) = (q : Int) := by
  unfold stepsOf at h
  match j, h with
  | 0, h => exact ⟨_, _, (Option.some.inj h).symm, rfl, nb_py2⟩
  | 1, h => exact ⟨_, _, (Option.some.inj h).symm, rfl, nb_py hr⟩
  | 2, h => exact ⟨_, _, (Option.some.inj h).symm, rfl, nb_py2⟩
  | 3, h => exact ⟨_, _, (Option.some.inj h).symm, rfl, nb_py hu⟩
  | j + 4, h => simp at h
/-! ### a list of ints compared with [] -/
theorem dp_ints {K : PySem.W.Frag} {H : Hp} : ∀ ns : List Nat, DpAll K H (nsL ns) (ns.map fun (n : Nat) => PyData.int (n : Int))
  | [] => .nil
  | n :: ns => .cons (.int _) (dp_ints ns)
theorem lay_ints : ∀ ns : List Nat, PyData.canLayAll0 (ns.map fun (n : Nat) => PyData.int (n : Int)) = true
  | [] => by simp [PyData.canLayAll0]
  | n :: ns => by simp [PyData.canLayAll0, PyData.canLay0, lay_ints ns]
theorem depth_ints : ∀ ns : List Nat, PyData.depthAll (ns.map fun (n : Nat) => PyData.int (n : Int)) = 0
  | [] => by simp [PyData.depthAll]
  | n :: ns => by simp [PyData.depthAll, PyData.depth, depth_ints ns]
theorem shaped_ints (ns : List Nat) : SeqAt.shaped (.list (ns.map fun (n : Nat) => PyData.int (n : Int))) = true := by
  show (PyData.canLay0 (.list (ns.map fun (n : Nat) => PyData.int (n : Int))) && decide (PyData.depth (.list (ns.map fun (n : Nat) => PyData.int (n : Int))) ≤ 64)) = true
  rw [Bool.and_eq_true]
  refine ⟨by simp only [PyData.canLay0]; exact lay_ints ns, decide_eq_true ?_⟩
  simp only [PyData.depth]
  rw [depth_ints]
  omega
theorem eqv_nil (ds : List PyData) : PyData.eqv (.list ds) (.list []) = ds.isEmpty := by
  cases ds with
  | nil => simp [PyData.eqv, PyData.eqvAll]
  | cons d ds => simp [PyData.eqv, PyData.eqvAll]
theorem shaped_nil : SeqAt.shaped (.list []) = true := by
  have h := shaped_ints []
  exact h
def spDist : Sp := fun vs H Q _ => ∃ m r u : Nat, vs = [.int m, .int r, .int u] ∧ 1 ≤ m ∧ m ≤ 200 ∧ r ≤ m ∧ u ≤ m ∧ okAll m r u = true ∧ ∀ (H' : Hp) (p : Addr), Same H H' → H' p = some (.tup (nsL (D m r u))) → Q (.ref p) H'
end K88
namespace K88
open PySem L2
section
variable {P : Program} {w : World} {K : PySem.W.Frag} {mg : Str → Option Value} {base : Heap}
abbrev nDist : List Str := ["many", "right", "up", "known", "rim", "far", "later", "note", "step"]
theorem scDist : FnScope nDist ["many", "right", "up"] (defScope sDist) := ⟨rfl, rfl, rfl, by decide +kernel, rfl, by decide +kernel, by decide +kernel⟩
theorem ok_dist {f g : Addr} {fd gd : FuncData} (F : Fun K "distances" "distances" sDist f fd) (G : FnOk P w K mg base CX0 3 g gd ["many", "right", "up"] spNeed) (bG : Binds K gd ["many", "right", "up"] []) (kG : PySem.W.keepIn K (.ref g) = true) (mG : mg "need_layout" = some (.ref g))
    (mt : mg "tuple" = none) (mr : mg "range" = none) : FnOk P w K mg base CX0 4 f fd ["many", "right", "up"] spDist := by
  refine F.ok scDist (fun vs H Q E h => ?_) (fun cdv A outer s H vs Q E hr h => ?_)
  · obtain ⟨m, r, u, rfl, _⟩ := h
    rfl
  · obtain ⟨m, r, u, rfl, h1, h2, h3, h4, hok, q⟩ := h
    have hu := hu_of hr
    refine ⟨_, pss_cons (ps_expr (pe_call G hr (by rfl) mG kG bG .nil pass0 (pa_cons (pv 0) (pa_cons (pv 1) (pa_cons (pv 2) pa_nil)))))
      (pss_cons (ps_asg (pe_tup (pa_cons (pe_disp (pps_cons pe_int pe_int pps_nil) (by rfl) (by rfl) (fun z => by cases z) (by decide)) (pa_cons (pe_lst (pa_cons pe_int pa_nil)) (pa_cons pe_int pa_nil))))
        (pg_tup rfl (pgs_cons (pg_name (i := 3) scDist.nd rfl (.inr rfl)) (pgs_cons (pg_name (i := 4) scDist.nd rfl (.inl rfl)) (pgs_cons (pg_name (i := 5) scDist.nd rfl (.inl rfl)) pgs_nil)))))
      (pss_cons (ps_while PassesOwn.never (pt_cmpR (op_neD hr.units) (pv 4) (pe_lst pa_nil) (nomark _))
        (pss_cons (ps_par (i := 5) (j := 6) rfl scDist.nd rfl rfl (by decide) rfl rfl (pa_cons (pe_op op_add (pv 5) pe_int) (pa_cons (pe_lst pa_nil) pa_nil)) (by rfl))
        (pss_cons (ps_for PassesOwn.never rfl (pi_list (pv 4)) (pg_name (i := 7) scDist.nd rfl (.inl rfl))
          (pss_one (ps_for PassesOwn.never rfl (pi_tup (pe_tup (pa_cons (pv 1) (pa_cons (pe_un un_neg (pv 1)) (pa_cons (pv 2) (pa_cons (pe_un un_neg (pv 2)) pa_nil)))))) (pg_name (i := 8) scDist.nd rfl (.inl rfl))
            (pss_one (ps_if (pt_cmp (pc_dnotin hu (pe_op op_mod (pe_op op_add (pv 7) (pv 8)) (pv 0)) (pv 3)))
              (pss_cons (ps_dput hu (pv 3) (pe_op op_mod (pe_op op_add (pv 7) (pv 8)) (pv 0)) (pv 5) rfl)
              (pss_one (ps_expr (pe_bm PySem.F.plainAttrs_list PySem.F.slot_list_append PySem.F.type_list_append mt_append (pv 6) (pa_cons (pe_op op_mod (pe_op op_add (pv 7) (pv 8)) (pv 0)) pa_nil)))))
              pss_nil)))))
        (pss_one (ps_set (i := 4) scDist.nd rfl (.inl rfl) (pv 6))))))
      (pss_one (ps_ret (pe_callTy call_tuple_of (by rfl) mt (by decide +kernel) (pa_cons (pe_lc (own := [("note", 7)]) (g := gName 7) (tt := tYes) (by rfl) scDist.nd (pi_range1 (by rfl) mr (pa_cons (pv 0) pa_nil)) (blkOk_by (N := nDist) (sc := defScope sDist) (by decide +kernel))
        (fun _ _ _ _ _ => pg_name (i := 7) scDist.nd rfl (Or.inl rfl)) (fun _ _ _ _ _ => pts_nil) (fun _ _ _ _ _ => pe_dget1 hu (pv 3) (pv 7) ⟨rfl, rfl, rfl, rfl⟩)) pa_nil)))))), ?_⟩
    -- need_layout
    refine ⟨_, rfl, _, rfl, _, rfl, m, r, u, rfl, h1, h2, by omega, by omega, ?_⟩
    -- known, rim, far
    refine fun kd nkd => ⟨upd_same, [(Sum.inl 0, V.int 0)], rfl, by decide, ⟨(by show 1 ≤ sizeLine; decide), fun l0 nl0 => ⟨(by show 3 ≤ sizeLine; decide), fun T0 nT0 => ?_⟩⟩⟩
    refine ⟨T0, _, rfl, SqT.of upd_same, rfl, _, _, rfl, _, _, rfl, _, _, rfl, rfl, ?_⟩
    have s0 : Same H (upd (upd (upd (upd H kd (.dK [])) kd (.dK (mergeK [] [(Sum.inl 0, V.int 0)]))) l0 (.lst [V.int 0])) T0 (.tup [.ref kd, .ref l0, .int 0])) := fun b o e => by
      have e1 : (upd (upd H kd (.dK [])) kd (.dK (mergeK [] [(Sum.inl 0, V.int 0)]))) b = some o := by
        rw [upd_ne (ne_of_none e nkd), upd_ne (ne_of_none e nkd)]
        exact e
      have e2 := same_new nl0 (.lst [V.int 0]) b o e1
      exact same_new nT0 _ b o e2
    have k0 : (upd (upd (upd (upd H kd (.dK [])) kd (.dK (mergeK [] [(Sum.inl 0, V.int 0)]))) l0 (.lst [V.int 0])) T0 (.tup [.ref kd, .ref l0, .int 0])) kd = some (.dK (kvL (lev m r u 0).1)) :=
      same_new nT0 _ _ _ (same_new nl0 (.lst [V.int 0]) _ _ upd_same)
    have r0 : (upd (upd (upd (upd H kd (.dK [])) kd (.dK (mergeK [] [(Sum.inl 0, V.int 0)]))) l0 (.lst [V.int 0])) T0 (.tup [.ref kd, .ref l0, .int 0])) l0 = some (.lst (nsL (lev m r u 0).2)) :=
      same_new nT0 _ _ _ upd_same
    generalize (upd (upd (upd (upd H kd (.dK [])) kd (.dK (mergeK [] [(Sum.inl 0, V.int 0)]))) l0 (.lst [V.int 0])) T0 (.tup [.ref kd, .ref l0, .int 0])) = H1 at s0 k0 r0 ⊢
    -- while rim != []
    refine ⟨fun c σ H' => ∃ (k : Nat) (l : Addr) (y6 y7 y8 : Option V), σ = [some (.int m), some (.int r), some (.int u), some (.ref kd), some (.ref l), some (.int k), y6, y7, y8] ∧ k ≤ m ∧ c = m - k ∧ Same H H' ∧
      H' kd = some (.dK (kvL (lev m r u k).1)) ∧ H' l = some (.lst (nsL (lev m r u k).2)), ⟨m, 0, l0, none, none, none, rfl, Nat.zero_le _, rfl, s0, k0, r0⟩, ?_⟩
    clear s0 k0 r0 nl0 nT0
    rintro c σ H' ⟨k, l, y6, y7, y8, rfl, hk, rfl, sm, ek, el⟩
    refine ⟨_, rfl, Nat.zero_le _, fun p0 np0 => ?_⟩
    have sp0 : Same H' (upd H' p0 (.lst [])) := same_new np0 _
    refine ⟨_, _, .lst (SqL.of (sp0 _ _ el)) (dp_ints _), .lst (SqL.of upd_same) .nil, shaped_ints _, shaped_nil, _, rfl, ?_⟩
    rw [eqv_nil]
    replace sm := sm.trans sp0
    replace ek := sp0 _ _ ek
    replace el := sp0 _ _ el
    generalize upd H' p0 (.lst []) = H2 at sm ek el ⊢
    clear sp0 np0
    by_cases e : (lev m r u k).2 = []
    · -- return
      rw [e]
      refine iteF ?_
      have ef := lev_final hk e
      refine ⟨_, rfl, (m : Int), rfl, by omega, by omega, fun D nD => lc_range (lo := 0) (n := ((m : Int)).toNat) (fun i H3 => Same H H3 ∧ H3 kd = some (.dK (kvL (lev m r u m).1)) ∧ H3 D = some (.lst (nsL ((List.range i).map (find (lev m r u m).1))))) ?_ ?_ ?_⟩
      · rw [← ef]
        exact ⟨sm.trans (same_new nD _), same_new nD _ _ _ ek, upd_same⟩
      · rintro i H3 hi ⟨sm3, ek3, eD3⟩
        have him : i < m := by omega
        refine ⟨rfl, ?_⟩
        show if true = true then _ else (Same H H3 ∧ H3 kd = some (.dK (kvL (lev m r u m).1)) ∧ H3 D = some (.lst (nsL ((List.range (i + 1)).map (find (lev m r u m).1)))))
        refine iteT ?_
        refine ⟨_, rfl, kd, rfl, .inl ⟨_, .inl ek3⟩, _, rfl, _, DGet.k (k := Sum.inl (0 + (i : Int))) ek3, _, eD3, ?_, ?_⟩
        · unfold nsL
          rw [List.length_map, List.length_map, List.length_range]
          exact small1000 (by omega)
        · have nDk : kd ≠ D := ne_of ek3 eD3 (by intro z; cases z)
          have nD0 : H D = none := sm.free nD
          refine ⟨fun b o z => ?_, ?_, ?_⟩
          · rw [upd_ne (ne_of_none z nD0)]
            exact sm3 b o z
          · rw [upd_ne nDk]
            exact ek3
          · rw [upd_same, Int.zero_add, valV_kv, okAll_has hok him, List.range_succ, List.map_append]
            unfold nsL
            rw [List.map_append]
            rfl
      · rintro H3 ⟨sm3, _, eD3⟩
        refine ⟨D, _, rfl, .inl ⟨SqL.of eD3, fun l2 nl2 => ?_⟩⟩
        refine q _ _ (sm3.trans (same_new nl2 _)) ?_
        rw [upd_same]
        rfl
    · -- a turn
      have hkm := lev_lt hok hk e
      rw [show (!((lev m r u k).2.map fun (n : Nat) => PyData.int (n : Int)).isEmpty) = true by
        cases z : (lev m r u k).2 with
        | nil => exact absurd z e
        | cons _ _ => rfl]
      refine iteT ?_
      refine ⟨fun σ H' => ∃ (l : Addr) (y6 y7 y8 : Option V), σ = [some (.int m), some (.int r), some (.int u), some (.ref kd), some (.ref l), some (.int ((k + 1 : Nat) : Int)), y6, y7, y8] ∧ Same H H' ∧
        H' kd = some (.dK (kvL (lev m r u (k + 1)).1)) ∧ H' l = some (.lst (nsL (lev m r u (k + 1)).2)), ?_, ?_⟩
      · rintro σ' H' ⟨l', z6, z7, z8, rfl, a1, a2, a3⟩
        exact ⟨m - (k + 1), by omega, k + 1, l', z6, z7, z8, rfl, by omega, rfl, a1, a2, a3⟩
      -- far, later
      refine ⟨_, rfl, _, _, rfl, rfl, Nat.zero_le _, fun lt nlt => ⟨_, _, rfl, ?_⟩⟩
      have slt : Same H2 (upd H2 lt (.lst [])) := same_new nlt _
      have nlt0 : H lt = none := sm.free nlt
      have nll : l ≠ lt := ne_of_none el nlt
      have a0 : At m H (upd H2 lt (.lst [])) kd lt l ((lev m r u k).1, []) (lev m r u k).2 :=
        ⟨sm.trans slt, slt _ _ ek, upd_same, slt _ _ el, nll, lev_good m r u (by omega) k, Nat.zero_le _⟩
      generalize upd H2 lt (.lst []) = H3 at a0 ⊢
      clear slt nlt ek el sm
      -- for note in rim
      refine ⟨_, rfl, l, rfl, ⟨_, SqL.of a0.ri⟩, for_list (K := K) (a := l) (xs := nsL (lev m r u k).2)
        (fun i σ H4 => ∃ y7 y8 : Option V, σ = [some (.int m), some (.int r), some (.int u), some (.ref kd), some (.ref l), some (.int ((k + 1 : Nat) : Int)), some (.ref lt), y7, y8] ∧
          At m H H4 kd lt l (((lev m r u k).2.take i).foldl (noteQ m r u (k + 1)) ((lev m r u k).1, [])) (lev m r u k).2)
        ⟨y7, y8, rfl, by rw [List.take_zero]; exact a0⟩ (fun i σ H4 _ ⟨_, _, _, a⟩ => SqL.of a.ri) ?_ ?_⟩
      · rintro i x σ H4 hx ⟨z7, z8, rfl, a⟩
        obtain ⟨n, hn, rfl⟩ : ∃ n, (lev m r u k).2[i]? = some n ∧ x = V.int (n : Int) := by
          unfold nsL at hx
          rw [List.getElem?_map] at hx
          cases z : (lev m r u k).2[i]? with
          | none => rw [z] at hx; cases hx
          | some n => rw [z] at hx; exact ⟨n, rfl, (Option.some.inj hx).symm⟩
        generalize est : ((lev m r u k).2.take i).foldl (noteQ m r u (k + 1)) ((lev m r u k).1, []) = st at a
        -- for step in (..)
        refine ⟨_, rfl, _, rfl, _, rfl, _, rfl, _, rfl, _, rfl, (by show 4 ≤ sizeLine; decide), fun T nT => ⟨T, rfl, ⟨_, SqT.of upd_same⟩, ?_⟩⟩
        refine for_tup (K := K) (a := T) (xs := stepsOf r u)
          (fun j σ H5 => ∃ y8 : Option V, σ = [some (.int m), some (.int r), some (.int u), some (.ref kd), some (.ref l), some (.int ((k + 1 : Nat) : Int)), some (.ref lt), some (.int n), y8] ∧
            At m H H5 kd lt l (((nb m r u n).take j).foldl (addQ (k + 1)) st) (lev m r u k).2 ∧ H5 T = some (.tup (stepsOf r u)))
          ⟨z8, rfl, by rw [List.take_zero]; exact a.keep (same_new nT _), upd_same⟩ (fun j σ H5 _ ⟨_, _, _, eT⟩ => SqT.of eT) ?_ ?_
        · rintro j x σ H5 hx ⟨w8, rfl, b, eT⟩
          obtain ⟨d, q', rfl, hq, ez⟩ := step_at (n := n) h3 h4 hx
          have hpos : (0 : Int) < (m : Int) := by omega
          have hqm : q' < m := nb_lt (by omega) q' (List.mem_of_getElem? hq)
          have etk : (nb m r u n).take (j + 1) = (nb m r u n).take j ++ [q'] := by
            rw [List.take_add_one, hq]
            rfl
          generalize est2 : ((nb m r u n).take j).foldl (addQ (k + 1)) st = st2 at b
          refine ⟨_, rfl, _, rfl, _, _, rfl, rfl, _, rfl, _, _, rfl, rfl, hpos, _, rfl, kd, _, rfl, DGet.k (k := Sum.inl (((n : Int) + d) % (m : Int))) b.dk, _, rfl, ?_⟩
          have ev : (!(valV (kvL st2.1) (Sum.inl (((n : Int) + d) % (m : Int)) : Key)).isSome) = !has st2.1 q' := by
            rw [ez, valV_kv]
            cases has st2.1 q' <;> rfl
          rw [ev]
          cases eh : has st2.1 q' with
          | true =>
            refine iteF ?_
            refine ⟨_, rfl, ?_, eT⟩
            rw [etk, List.foldl_append, est2]
            show At m H H5 kd lt l (addQ (k + 1) st2 q') (lev m r u k).2
            unfold addQ
            rw [eh]
            exact b
          | false =>
            refine iteT ?_
            refine ⟨_, rfl, _, rfl, _, rfl, _, rfl, _, _, rfl, rfl, _, rfl, _, _, rfl, rfl, hpos, kd, _, rfl, DPut.k (k := Sum.inl (((n : Int) + d) % (m : Int))) b.dk (b.small h2).1, ?_⟩
            have nkl : lt ≠ kd := ne_of b.la b.dk (by intro z; cases z)
            have hla : (upd H5 kd (.dK (putK (kvL st2.1) (Sum.inl (((n : Int) + d) % (m : Int)) : Key) (.int ((k + 1 : Nat) : Int))))) lt = some (.lst (nsL st2.2)) := by
              rw [upd_ne nkl]
              exact b.la
            refine ⟨.ref lt, rfl, .inl ⟨rfl, _, SqL.of hla⟩, _, rfl, _, rfl, _, _, rfl, rfl, _, rfl, _, _, rfl, rfl, hpos, lt, _, _, rfl, rfl, hla, (b.small h2).2, ?_⟩
            refine ⟨_, rfl, ?_, ?_⟩
            · rw [etk, List.foldl_append, est2]
              exact b.add nkd nlt0 hqm ez eh
            · rw [upd_ne (ne_of eT b.la (by intro z; cases z)), upd_ne (ne_of eT b.dk (by intro z; cases z))]
              exact eT
        · rintro σ H5 ⟨w8, rfl, b, eT⟩
          refine ⟨_, _, rfl, ?_⟩
          rw [List.take_add_one, hn]
          show At m H H5 kd lt l (((lev m r u k).2.take i ++ [n]).foldl (noteQ m r u (k + 1)) ((lev m r u k).1, [])) (lev m r u k).2
          rw [List.foldl_append, est]
          exact b
      · rintro σ H5 ⟨w7, w8, rfl, b⟩
        have el : (nsL (lev m r u k).2).length = (lev m r u k).2.length := by
          unfold nsL
          rw [List.length_map]
        rw [el, List.take_length, ← lev_succ] at b
        refine ⟨_, rfl, ?_⟩
        exact ⟨lt, _, w7, w8, rfl, b.sm, b.dk, b.la⟩
end
end K88
namespace K88
open PySem L2
def pD (p : Nat × Nat) : PyData := .tuple [.int (p.1 : Int), .int (p.2 : Int)]
def oD : Option Nat → PyData
  | none => .none
  | some b => .int (b : Int)
def oV : Option Nat → V
  | none => .non
  | some b => .int (b : Int)
theorem td_o {H : Hp} : ∀ o : Option Nat, Td H (oV o) (oD o)
  | none => .non
  | some _ => .int _
def bestD (m : Nat) : PyData := .tuple (oD (best m (G m)).1 :: (best m (G m)).2.map pD)
def spBest : Sp := fun vs H Q _ => ∃ m : Nat, vs = [.int m] ∧ 3 ≤ m ∧ m ≤ 26 ∧ ∀ (H' : Hp) (v : V), Same H H' → Td H' v (bestD m) → Q v H'
/-! ### lengths -/
theorem inner_len (r n : Nat) : (inner r n).length = n := by
  unfold inner
  rw [List.length_map, List.length_range]
theorem outer_len (h : Nat) : ∀ i : Nat, (outer h i).length ≤ i * h
  | 0 => by simp [outer]
  | i + 1 => by
    rw [outer_succ, List.length_append, inner_len, Nat.succ_mul]
    have := outer_len h i
    omega
theorem best_len (m : Nat) (L : List (Nat × Nat)) : (best m L).2.length ≤ L.length := by
  rcases best_is m L with ⟨_, e⟩ | ⟨μ, e, _⟩
  · rw [e]
    exact Nat.zero_le _
  · rw [e]
    exact List.length_filter_le _ _
/-- the pairs met at outer turn i, inner turn j -/
def met (m i j : Nat) : List (Nat × Nat) := (outer (m / 2) i ++ inner (i + 1) j).filter (isG m)
theorem met_zero (m i : Nat) : met m i 0 = (outer (m / 2) i).filter (isG m) := by
  unfold met
  rw [show inner (i + 1) 0 = [] from rfl, List.append_nil]
theorem met_succ (m i j : Nat) : met m i (j + 1) = met m i j ++ (if isG m (i + 1, i + 1 + 1 + j) = true then [(i + 1, i + 1 + 1 + j)] else []) := by
  unfold met
  rw [inner_succ, ← List.append_assoc, List.filter_append]
  congr 1
  by_cases h : isG m (i + 1, i + 1 + 1 + j) = true
  · rw [if_pos h, List.filter_cons_of_pos h, List.filter_nil]
  · rw [if_neg h, List.filter_cons_of_neg h, List.filter_nil]
theorem met_end (m i : Nat) : met m i (m / 2 - (i + 1)) = (outer (m / 2) (i + 1)).filter (isG m) := by
  unfold met
  rw [outer_succ]
theorem met_len {m i j : Nat} (hm : m ≤ 26) (hi : i < m / 2) (hj : j ≤ m / 2 - (i + 1)) : (met m i j).length ≤ 400 := by
  unfold met
  refine Nat.le_trans (List.length_filter_le _ _) ?_
  rw [List.length_append, inner_len]
  have h1 := outer_len (m / 2) i
  have h2 : i * (m / 2) ≤ 13 * 13 := Nat.mul_le_mul (by omega) (by omega)
  omega
theorem met_mem {m i j : Nat} (hi : i < m / 2) (hj : j < m / 2 - (i + 1)) (h : isG m (i + 1, i + 1 + 1 + j) = true) : (i + 1, i + 1 + 1 + j) ∈ G m := by
  unfold G
  rw [List.mem_filter]
  refine ⟨outer_sub (m / 2) i (j + 1) hi (by omega) _ ?_, h⟩
  rw [inner_succ]
  simp
/-! ### the list that is found -/
structure BA (H H' : Hp) (fl : Addr) (L : List (Nat × Nat)) : Prop where
  sm : Same H H'
  nf : H fl = none
  ls : ∃ ps, H' fl = some (.lst ps) ∧ TdAll H' ps (L.map pD)
theorem BA.keep {H H1 H2 : Hp} {fl : Addr} {L : List (Nat × Nat)} (a : BA H H1 fl L) (s : Same H1 H2) : BA H H2 fl L := by
  obtain ⟨a1, a2, ps, e1, e2⟩ := a
  exact ⟨a1.trans s, a2, ps, s _ _ e1, TdAll.keep (TS.of s) _ _ e2⟩
theorem BA.push {H H1 : Hp} {fl t : Addr} {L : List (Nat × Nat)} {ps : List V} {r u : Nat} (sm : Same H H1) (nf : H fl = none) (e1 : H1 fl = some (.lst ps)) (e2 : TdAll H1 ps (L.map pD)) (nt : H1 t = none) :
    BA H (upd (upd H1 t (.tup [.int (r : Int), .int (u : Int)])) fl (.lst (ps ++ [.ref t]))) fl (L ++ [(r, u)]) := by
  have s1 := same_new nt (.tup [.int (r : Int), .int (u : Int)])
  have e1' := s1 _ _ e1
  have t1 := TS.lst e1' (.lst (ps ++ [.ref t]))
  refine ⟨fun b o h => ?_, nf, _, upd_same, ?_⟩
  · rw [upd_ne (ne_of_none h nf)]
    exact s1 _ _ (sm _ _ h)
  · rw [List.map_append]
    refine TdAll.snoc (TdAll.keep t1 _ _ (TdAll.keep (TS.of s1) _ _ e2)) ?_
    exact .tup (t1 _ _ upd_same) (by show 2 ≤ 1000; decide) (.cons (.int _) (.cons (.int _) .nil))
theorem nsL_map (ns : List Nat) : nsL ns = (ns.map fun (n : Nat) => (n : Int)).map V.int := by
  unfold nsL
  rw [List.map_map]
  rfl
section
variable {P : Program} {w : World} {K : PySem.W.Frag} {mg : Str → Option Value} {base : Heap}
theorem scBest : FnScope ["many", "best", "found", "right", "up", "far"] ["many"] (defScope sBest) := ⟨rfl, rfl, rfl, by decide +kernel, rfl, by decide +kernel, by decide +kernel⟩
theorem ok_best {f g c d : Addr} {fd gd cd dd : FuncData} {t : Tok} (FF : Fun K "best_layouts" "best_layouts" sBest f fd) (G : FnOk P w K mg base CX0 2 g gd ["value", "least", "most"] spIsIn) (bG : Binds K gd ["value", "least", "most"] []) (kG : PySem.W.keepIn K (.ref g) = true) (mG : mg "is_in" = some (.ref g))
    (C : FnOk P w K mg base CX0 1 c cd ["one", "other"] spCommon) (bC : Binds K cd ["one", "other"] []) (kC : PySem.W.keepIn K (.ref c) = true) (mC : mg "common" = some (.ref c))
    (DD : FnOk P w K mg base CX0 4 d dd ["many", "right", "up"] spDist) (bD : Binds K dd ["many", "right", "up"] []) (kD : PySem.W.keepIn K (.ref d) = true) (mD : mg "distances" = some (.ref d))
    (mA : mg "MOST_AREA" = some (.int 60 t)) (mr : mg "range" = none) (mm : mg "max" = none) : FnOk P w K mg base CX0 5 f fd ["many"] spBest := by
  refine FF.ok scBest (fun vs H Q E h => ?_) (fun cdv A outer_ s H vs Q E hr h => ?_)
  · obtain ⟨m, rfl, _⟩ := h
    rfl
  · obtain ⟨m, rfl, h3, h26, q⟩ := h
    have hr1 : Room 1 _ := hr.mono (by decide)
    have hr2 : Room 2 _ := hr.mono (by decide)
    refine ⟨_, pss_cons (ps_if (pt_not (pt_val (pe_call G hr2 (by rfl) mG kG bG .nil pass0 (pa_cons (pv 0) (pa_cons pe_int (pa_cons (pe_glob (v := .int 60) (by rfl) mA ⟨_, rfl⟩) pa_nil)))))) (pss_one ps_never) pss_nil)
      (pss_cons (ps_par (i := 1) (j := 2) rfl scBest.nd rfl rfl (by decide) rfl rfl (pa_cons pe_non (pa_cons (pe_lst pa_nil) pa_nil)) (by rfl))
      (pss_cons (ps_for PassesOwn.never rfl (pi_range2 (by rfl) mr (pa_cons pe_int (pa_cons (pe_op op_add (pe_op op_fdiv (pv 0) pe_int) pe_int) pa_nil))) (pg_name (i := 3) scBest.nd rfl (.inl rfl))
        (pss_one (ps_for PassesOwn.never rfl (pi_range2 (by rfl) mr (pa_cons (pe_op op_add (pv 3) pe_int) (pa_cons (pe_op op_add (pe_op op_fdiv (pv 0) pe_int) pe_int) pa_nil))) (pg_name (i := 4) scBest.nd rfl (.inl rfl))
          (pss_one (ps_if (pt_cmpR op_eq (pe_call C hr1 (by rfl) mC kC bC .nil pass0 (pa_cons (pe_call C hr1 (by rfl) mC kC bC .nil pass0 (pa_cons (pv 3) (pa_cons (pv 4) pa_nil))) (pa_cons (pv 0) pa_nil))) pe_int (nomark _))
            (pss_cons (ps_set (i := 5) scBest.nd rfl (.inl rfl) (pe_callB (cr_maxT rfl hr.units) (by rfl) mm (by decide +kernel) (pa_cons (pe_call DD hr (by rfl) mD kD bD .nil pass0 (pa_cons (pv 0) (pa_cons (pv 3) (pa_cons (pv 4) pa_nil)))) pa_nil)))
            (pss_cons (ps_if (PW.pt (pw_or (pt_cmp (pc_isN (pv 1))) (pw_or1 (pt_cmpR op_lt (pv 5) (pv 1) (nomark _)))))
              (pss_one (ps_par (i := 1) (j := 2) rfl scBest.nd rfl rfl (by decide) rfl rfl (pa_cons (pv 5) (pa_cons (pe_lst pa_nil) pa_nil)) (by rfl))) pss_nil)
            (pss_one (ps_if (pt_cmpR op_eq (pv 5) (pv 1) (nomark _))
              (pss_one (ps_expr (pe_bm PySem.F.plainAttrs_list PySem.F.slot_list_append PySem.F.type_list_append mt_append (pv 2) (pa_cons (pe_tup (pa_cons (pv 3) (pa_cons (pv 4) pa_nil))) pa_nil)))) pss_nil))))
            pss_nil)))))
      (pss_one (ps_ret (pe_tup (pa_cons (pv 1) (StX.pa_star (pv 2) pa_nil))))))), ?_⟩
    -- is_in
    refine ⟨_, rfl, m, 3, 60, rfl, by omega, by omega, _, rfl, iteF ?_⟩
    -- best, found
    refine ⟨Nat.zero_le _, fun f0 nf0 => ⟨_, _, rfl, ?_⟩⟩
    have b0 : BA H (upd H f0 (.lst [])) f0 (best m ((outer (m / 2) 0).filter (isG m))).2 := ⟨same_new nf0 _, nf0, [], upd_same, .nil⟩
    generalize upd H f0 (.lst []) = H1 at b0 ⊢
    -- the outer loop
    have en : ((m : Int) / 2 + 1 - 1).toNat = m / 2 := by omega
    refine ⟨_, rfl, _, _, rfl, rfl, ⟨by decide, by decide⟩, _, _, rfl, rfl, 1, (m : Int) / 2 + 1, rfl, ⟨by omega, by omega, by omega, by omega⟩,
      for_range (lo := 1) (n := ((m : Int) / 2 + 1 - 1).toNat) (fun i σ H2 => ∃ (fl : Addr) (y3 y4 y5 : Option V),
        σ = [some (.int m), some (oV (best m ((outer (m / 2) i).filter (isG m))).1), some (.ref fl), y3, y4, y5] ∧ BA H H2 fl (best m ((outer (m / 2) i).filter (isG m))).2)
      ⟨f0, none, none, none, rfl, b0⟩ ?_ ?_⟩
    · rintro i σ H2 hi ⟨fl, y3, y4, y5, rfl, b⟩
      have him : i < m / 2 := by omega
      rw [show (1 + (i : Int)) = ((i + 1 : Nat) : Int) by omega]
      -- the inner loop
      have en2 : ((m : Int) / 2 + 1 - (((i + 1 : Nat) : Int) + 1)).toNat = m / 2 - (i + 1) := by omega
      refine ⟨_, rfl, _, _, rfl, rfl, _, rfl, _, _, rfl, rfl, ⟨by decide, by decide⟩, _, _, rfl, rfl, ((i + 1 : Nat) : Int) + 1, (m : Int) / 2 + 1, rfl, ⟨by omega, by omega, by omega, by omega⟩, ?_⟩
      refine for_range (lo := ((i + 1 : Nat) : Int) + 1) (n := ((m : Int) / 2 + 1 - (((i + 1 : Nat) : Int) + 1)).toNat) (fun j σ H3 => ∃ (fl : Addr) (y4 y5 : Option V),
        σ = [some (.int m), some (oV (best m (met m i j)).1), some (.ref fl), some (.int ((i + 1 : Nat) : Int)), y4, y5] ∧ BA H H3 fl (best m (met m i j)).2)
        ⟨fl, y4, y5, by rw [met_zero]; rfl, by rw [met_zero]; exact b⟩ ?_ ?_
      · clear b
        rintro j σ H3 hj ⟨fl, z4, z5, rfl, b⟩
        have hjm : j < m / 2 - (i + 1) := by omega
        rw [show (((i + 1 : Nat) : Int) + 1 + (j : Int)) = ((i + 1 + 1 + j : Nat) : Int) by omega]
        refine ⟨_, rfl, _, rfl, i + 1, i + 1 + 1 + j, rfl, _, rfl, Nat.gcd (i + 1) (i + 1 + 1 + j), m, rfl, rfl, _, rfl, ?_⟩
        rw [gcd_test]
        show if isG m (i + 1, i + 1 + 1 + j) = true then _ else _
        have hlen : (best m (met m i j)).2.length ≤ 400 := Nat.le_trans (best_len _ _) (met_len h26 him (by omega))
        cases hg : isG m (i + 1, i + 1 + 1 + j) with
        | false =>
          refine iteF ?_
          have e : met m i (j + 1) = met m i j := by
            rw [met_succ, hg]
            exact List.append_nil _
          refine ⟨fl, some (.int ((i + 1 + 1 + j : Nat) : Int)), z5, ?_, ?_⟩
          · rw [e]
            rfl
          · rw [e]
            exact b
        | true =>
          refine iteT ?_
          have hmem := met_mem him hjm hg
          have hok := all_ok h3 h26 hmem
          have e : best m (met m i (j + 1)) = bstep m (best m (met m i j)) (i + 1, i + 1 + 1 + j) := by
            rw [met_succ, if_pos hg, best_snoc]
          rw [e]
          generalize hst : best m (met m i j) = st at b hlen ⊢
          clear e
          -- far = max(distances(..))
          refine ⟨_, rfl, _, rfl, _, rfl, m, i + 1, i + 1 + 1 + j, rfl, by omega, by omega, by omega, by omega, hok, fun H4 p s4 e4 => ?_⟩
          refine ⟨p, (D m (i + 1) (i + 1 + 1 + j)).map (fun (n : Nat) => (n : Int)), rfl, by rw [← nsL_map]; exact SqT.of e4, ?_, fun M hM hle => ?_⟩
          · unfold D
            rw [List.length_map, List.length_map, List.length_range]
            omega
          have eM := F_is (p := (i + 1, i + 1 + 1 + j)) hM hle
          subst eM
          replace b := b.keep s4
          clear s4 e4 hM hle
          obtain ⟨st1, L⟩ := st
          -- what follows when found is to be grown
          cases st1 with
          | none =>
            refine ⟨_, rfl, _, rfl, ?_⟩
            rw [decide_eq_true (show oV none = V.non from rfl)]
            refine iteT (iteT ?_)
            refine ⟨_, rfl, Nat.zero_le _, fun fn nfn => ⟨_, _, rfl, ?_⟩⟩
            refine ⟨_, rfl, _, rfl, rfl, _, rfl, ?_⟩
            rw [decide_eq_true rfl]
            refine iteT ?_
            have sn := same_new nfn (.lst [])
            have nf := b.sm.free nfn
            refine ⟨.ref fn, rfl, .inl ⟨rfl, _, SqL.of upd_same⟩, _, rfl, _, rfl, (by show 2 ≤ sizeLine; decide), fun t nt => ?_⟩
            refine ⟨fn, [], _, rfl, rfl, same_new nt _ _ _ upd_same, (by show 0 < sizeLine; decide), ?_⟩
            exact ⟨fn, _, _, rfl, BA.push (L := []) (b.sm.trans sn) nf upd_same .nil nt⟩
          | some b0 =>
            refine ⟨_, rfl, _, rfl, ?_⟩
            rw [decide_eq_false (show ¬ oV (some b0) = V.non from fun z => by cases z)]
            refine iteF ?_
            refine ⟨_, rfl, _, rfl, _, _, rfl, rfl, _, rfl, ?_⟩
            by_cases hlt : F m (i + 1, i + 1 + 1 + j) < b0
            · rw [decide_eq_true (show ((F m (i + 1, i + 1 + 1 + j) : Nat) : Int) < (b0 : Int) by omega)]
              refine iteT ?_
              refine ⟨_, rfl, Nat.zero_le _, fun fn nfn => ⟨_, _, rfl, ?_⟩⟩
              refine ⟨_, rfl, _, rfl, rfl, _, rfl, ?_⟩
              rw [decide_eq_true rfl]
              refine iteT ?_
              have sn := same_new nfn (.lst [])
              have nf := b.sm.free nfn
              refine ⟨.ref fn, rfl, .inl ⟨rfl, _, SqL.of upd_same⟩, _, rfl, _, rfl, (by show 2 ≤ sizeLine; decide), fun t nt => ?_⟩
              refine ⟨fn, [], _, rfl, rfl, same_new nt _ _ _ upd_same, (by show 0 < sizeLine; decide), ?_⟩
              have eb : bstep m (some b0, L) (i + 1, i + 1 + 1 + j) = (some (F m (i + 1, i + 1 + 1 + j)), [(i + 1, i + 1 + 1 + j)]) := if_pos hlt
              rw [eb]
              exact ⟨fn, _, _, rfl, BA.push (L := []) (b.sm.trans sn) nf upd_same .nil nt⟩
            · rw [decide_eq_false (show ¬ ((F m (i + 1, i + 1 + 1 + j) : Nat) : Int) < (b0 : Int) by omega)]
              refine iteF ?_
              refine ⟨_, rfl, _, rfl, rfl, _, rfl, ?_⟩
              have eb : bstep m (some b0, L) (i + 1, i + 1 + 1 + j) = if F m (i + 1, i + 1 + 1 + j) = b0 then (some b0, L ++ [(i + 1, i + 1 + 1 + j)]) else (some b0, L) := if_neg hlt
              by_cases heq : F m (i + 1, i + 1 + 1 + j) = b0
              · rw [decide_eq_true (show V.int ((F m (i + 1, i + 1 + 1 + j) : Nat) : Int) = oV (some b0) by rw [heq]; rfl)]
                refine iteT ?_
                obtain ⟨ps, e1, e2⟩ := b.ls
                have hps : ps.length ≤ 400 := by
                  have h1 := e2.length
                  rw [List.length_map] at h1
                  rw [h1]
                  exact hlen
                refine ⟨.ref fl, rfl, .inl ⟨rfl, _, SqL.of e1⟩, _, rfl, _, rfl, (by show 2 ≤ sizeLine; decide), fun t nt => ?_⟩
                refine ⟨fl, ps, _, rfl, rfl, same_new nt _ _ _ e1, small1000 (by omega), ?_⟩
                rw [eb, if_pos heq]
                exact ⟨fl, _, _, rfl, BA.push b.sm b.nf e1 e2 nt⟩
              · rw [decide_eq_false (show ¬ V.int ((F m (i + 1, i + 1 + 1 + j) : Nat) : Int) = oV (some b0) from fun z => heq (by injection z with z; omega))]
                refine iteF ?_
                rw [eb, if_neg heq]
                exact ⟨fl, _, _, rfl, b⟩
      · rintro σ H3 ⟨fl, z4, z5, rfl, b⟩
        rw [en2, met_end] at b ⊢
        exact ⟨fl, _, _, _, rfl, b⟩
    · rintro σ H2 ⟨fl, y3, y4, y5, rfl, b⟩
      rw [en] at b ⊢
      obtain ⟨ps, e1, e2⟩ := b.ls
      have hlen : (best m (K88.G m)).2.length ≤ 400 := by
        refine Nat.le_trans (best_len _ _) ?_
        refine Nat.le_trans (List.length_filter_le _ _) ?_
        have h1 := outer_len (m / 2) (m / 2)
        have h2 : (m / 2) * (m / 2) ≤ 13 * 13 := Nat.mul_le_mul (by omega) (by omega)
        omega
      have hps : ps.length ≤ 400 := by
        have h1 := e2.length
        rw [List.length_map] at h1
        rw [h1]
        exact hlen
      refine ⟨_, rfl, _, rfl, fl, ps, rfl, .inr (SqL.of e1), ?_, fun p np => ?_⟩
      · rw [List.append_nil, List.length_cons]
        exact Nat.le_of_lt (small1000 (by omega))
      · rw [List.append_nil]
        have sp := same_new np (.tup (oV (best m ((outer (m / 2) (m / 2)).filter (isG m))).1 :: ps))
        refine q _ _ (b.sm.trans sp) ?_
        refine .tup upd_same ?_ (.cons (td_o _) (TdAll.keep (TS.of sp) _ _ e2))
        rw [List.length_cons, List.length_map]
        omega
end
end K88
namespace K88
open PySem L2
def spTaken (K : PySem.W.Frag) : Sp := fun vs H Q _ => ∃ (row a : Addr) (H0 : Hp) (ns : List Int), vs = [.ref row, .int 24] ∧ H0 row = none ∧ SqL K H0 a (ns.map V.int) ∧ Same H0 H ∧ H row = some (.lst [.ref a, .int 0, .int 4288, .int 0]) ∧
  ∀ (k : Nat) (H' : Hp), k < 24 → Q (.int (k : Int)) H'
theorem mod24 (z : Int) : ∃ k : Nat, k < 24 ∧ z % 24 = (k : Int) := ⟨(z % 24).toNat, by omega, by omega⟩
section
variable {P : Program} {w : World} {K : PySem.W.Frag} {mg : Str → Option Value} {base : Heap}
theorem scTaken : FnScope ["_law_row", "_law_many", "_law_found", "_law_cell"] ["_law_row", "_law_many"] (defScope sTaken) := ⟨rfl, rfl, rfl, by decide +kernel, rfl, by decide +kernel, by decide +kernel⟩
theorem ok_taken {f : Addr} {fd : FuncData} (F : Fun K "_law_taken" "_law_taken" sTaken f fd) (mi : mg "int" = none) (ml : mg "len" = none) : FnOk P w K mg base CX0 1 f fd ["_law_row", "_law_many"] (spTaken K) := by
  refine F.ok scTaken (fun vs H Q E h => ?_) (fun cdv A outer_ s H vs Q E hr h => ?_)
  · obtain ⟨row, a, H0, ns, rfl, _⟩ := h
    rfl
  · obtain ⟨row, a, H0, ns, rfl, n0, hS, sm, hR, q⟩ := h
    refine ⟨_, pss_cons (ps_if (pt_cmpR op_gt (pe_ix ix_list (pv 0) pe_int (fun _ _ => rfl)) pe_int (nomark _)) pss_never pss_nil)
      (pss_cons (ps_asg (pe_op op_add (pe_ix ix_list (pv 0) pe_int (fun _ _ => rfl)) pe_int) (pg_sub (pv 0) pe_int set_list))
      (pss_cons (ps_if (pt_cmpR op_gt (pe_ix ix_list (pv 0) pe_int (fun _ _ => rfl)) (pe_callB call_len_seq (by rfl) ml PySem.boot_len (pa_cons (pe_ix ix_list (pv 0) pe_int (fun _ _ => rfl)) pa_nil)) (nomark _))
        (pss_cons (ps_asg (pe_op op_mod (pe_callTy call_int1 (by rfl) mi (by decide +kernel) (pa_cons (pe_op op_add (pe_op op_mul (pe_ix ix_list (pv 0) pe_int (fun _ _ => rfl)) pe_int) pe_int) pa_nil)) pe_int) (pg_sub (pv 0) pe_int set_list))
        (pss_one (ps_ret (pe_op op_mod (pe_callTy call_int1 (by rfl) mi (by decide +kernel) (pa_cons (pe_op op_fdiv (pe_ix ix_list (pv 0) pe_int (fun _ _ => rfl)) pe_int) pa_nil)) (pv 1))))) pss_nil)
      (pss_cons (ps_set (i := 3) scTaken.nd rfl (.inl rfl) (pe_ix ix_list (pe_ix ix_list (pv 0) pe_int (fun _ _ => rfl)) (pe_op op_sub (pe_ix ix_list (pv 0) pe_int (fun _ _ => rfl)) pe_int) (fun _ _ => rfl)))
      (pss_cons (ps_asg (pe_op op_mod (pe_callTy call_int1 (by rfl) mi (by decide +kernel) (pa_cons (pe_op op_add (pe_op op_add (pe_op op_mul (pe_ix ix_list (pv 0) pe_int (fun _ _ => rfl)) pe_int) (pv 3)) pe_int) pa_nil)) pe_int) (pg_sub (pv 0) pe_int set_list))
      (pss_cons (ps_if (pt_cmpR op_ge (pv 3) (pe_op op_pow pe_int pe_int) (nomark _)) (pss_one (ps_asg (pe_op op_fdiv (pv 3) (pv 1)) (pg_sub (pv 0) pe_int set_list))) pss_nil)
      (pss_one (ps_ret (pe_op op_mod (pe_callTy call_int1 (by rfl) mi (by decide +kernel) (pa_cons (pv 3) pa_nil)) (pv 1))))))))), ?_⟩
    -- row[3] > 0
    refine ⟨_, rfl, row, _, 3, _, rfl, rfl, SqL.of hR, rfl, _, _, rfl, rfl, _, rfl, iteF ?_⟩
    -- row[1] = row[1] + 1
    refine ⟨_, rfl, row, _, 1, _, rfl, rfl, SqL.of hR, rfl, _, _, rfl, rfl, _, rfl, row, _, 1, 1, rfl, rfl, hR, rfl, ?_⟩
    have sm1 : Same H0 (upd H row (.lst [.ref a, .int (0 + 1), .int 4288, .int 0])) := fun b o e => by
      rw [upd_ne (ne_of_none e n0)]
      exact sm b o e
    have hR1 : (upd H row (.lst [.ref a, .int (0 + 1), .int 4288, .int 0])) row = some (.lst [.ref a, .int (0 + 1), .int 4288, .int 0]) := upd_same
    show tSeq _ _ _ _ (upd H row (.lst [.ref a, .int (0 + 1), .int 4288, .int 0]))
    generalize upd H row (.lst [.ref a, .int (0 + 1), .int 4288, .int 0]) = H1 at sm1 hR1 ⊢
    -- row[1] > len(row[0])
    refine ⟨_, rfl, row, _, 1, _, rfl, rfl, SqL.of hR1, rfl, _, rfl, row, _, 0, _, rfl, rfl, SqL.of hR1, rfl, a, _, rfl, .inl (sm1.seq hS), _, _, rfl, rfl, _, rfl, ?_⟩
    cases ns with
    | nil =>
      refine iteT ?_
      refine ⟨_, rfl, row, _, 2, _, rfl, rfl, SqL.of hR1, rfl, _, _, rfl, rfl, .inl ⟨by decide, by decide⟩, _, _, rfl, rfl, .inl ⟨_, rfl, ?_⟩⟩
      refine ⟨_, _, rfl, rfl, (by show (0 : Int) < 2147483647; decide), _, rfl, row, _, 2, 2, rfl, rfl, hR1, rfl, ?_⟩
      refine ⟨_, rfl, row, _, 2, _, rfl, rfl, SqL.of upd_same, rfl, _, _, rfl, rfl, ⟨by decide, by decide⟩, .inl ⟨_, rfl, ?_⟩⟩
      refine ⟨_, rfl, _, _, rfl, rfl, (by show (0 : Int) < 24; decide), ?_⟩
      obtain ⟨k, hk, ek⟩ := mod24 (((4288 * 48271 + 11) % 2147483647) / 7)
      show Q (.int ((((4288 * 48271 + 11) % 2147483647) / 7) % 24)) _
      rw [ek]
      exact q k _ hk
    | cons c cs =>
      have hc : ¬ ((((c :: cs).map V.int).length : Nat) : Int) < (0 + 1 : Int) := by
        rw [List.map_cons, List.length_cons]
        omega
      rw [decide_eq_false hc]
      refine iteF ?_
      -- cell = row[0][row[1] - 1]
      refine ⟨_, rfl, row, _, 0, _, rfl, rfl, SqL.of hR1, rfl, _, rfl, row, _, 1, _, rfl, rfl, SqL.of hR1, rfl, _, _, rfl, rfl, a, _, _, V.int c, rfl, rfl, sm1.seq hS, ?_, ?_⟩
      · exact atI_nat (j := 0) rfl
      -- row[2] = ..
      refine ⟨_, rfl, row, _, 2, _, rfl, rfl, SqL.of hR1, rfl, _, _, rfl, rfl, .inl ⟨by decide, by decide⟩, _, rfl, _, _, rfl, rfl, _, _, rfl, rfl, .inl ⟨_, rfl, ?_⟩⟩
      refine ⟨_, _, rfl, rfl, (by show (0 : Int) < 2147483647; decide), _, rfl, row, _, 2, 2, rfl, rfl, hR1, rfl, ?_⟩
      -- cell >= 10 ** 18
      refine ⟨_, rfl, _, _, rfl, rfl, ⟨by decide, by decide, by decide⟩, _, _, rfl, rfl, _, rfl, ?_⟩
      obtain ⟨k, hk, ek⟩ := mod24 c
      refine ite2 (fun _ => ?_) (fun _ => ?_)
      · refine ⟨_, rfl, _, rfl, _, _, rfl, rfl, ⟨by decide, by decide⟩, _, rfl, row, _, 3, 3, rfl, rfl, upd_same, rfl, ?_⟩
        refine ⟨_, rfl, .inl ⟨_, rfl, _, rfl, _, _, rfl, rfl, (by show (0 : Int) < 24; decide), ?_⟩⟩
        show Q (.int (c % 24)) _
        rw [ek]
        exact q k _ hk
      · refine ⟨_, rfl, .inl ⟨_, rfl, _, rfl, _, _, rfl, rfl, (by show (0 : Int) < 24; decide), ?_⟩⟩
        show Q (.int (c % 24)) _
        rw [ek]
        exact q k _ hk
end
end K88
namespace K88
open PySem L2
def spAl (n : Nat) : Sp := fun vs H Q _ => ∃ (x y : V) (d : PyData), vs = [x, y] ∧ Td H x d ∧ Td H y d ∧ d.depth < n ∧ ∀ H', Same H H' → Q (.bl true) H'
section
variable {P : Program} {w : World} {K : PySem.W.Frag} {mg : Str → Option Value} {base : Heap}
theorem any_tup : PySem.W.kitAny K (.type "tuple") [.type "tuple", .type "list"] = some true := by
  unfold PySem.W.kitAny
  rw [kit_ty (r := true) (by decide +kernel)]
theorem any_no {T : String} (h1 : PySem.W.kitOne K (.type T) (.type "tuple") = some false) (h2 : PySem.W.kitOne K (.type T) (.type "list") = some false) : PySem.W.kitAny K (.type T) [.type "tuple", .type "list"] = some false := by
  unfold PySem.W.kitAny
  rw [h1]
  show PySem.W.kitAny K (.type T) [.type "list"] = some false
  unfold PySem.W.kitAny
  rw [h2]
  rfl
theorem scAl : FnScope ["_law_found", "_law_due", "_law_k"] ["_law_found", "_law_due"] (defScope sAlike) := ⟨rfl, rfl, rfl, by decide +kernel, rfl, by decide +kernel, by decide +kernel⟩
theorem depth_mem : ∀ {ds : List PyData} {d : PyData} {i : Nat}, ds[i]? = some d → d.depth ≤ PyData.depthAll ds
  | [], _, _, h => by simp at h
  | e :: es, d, 0, h => by
    have h := Option.some.inj (show some e = some d from h)
    subst h
    simp only [PyData.depthAll]
    exact Nat.le_max_left _ _
  | e :: es, d, i + 1, h => by
    have h := depth_mem (ds := es) (i := i) (by simpa using h)
    simp only [PyData.depthAll]
    exact Nat.le_trans h (Nat.le_max_right _ _)
theorem ok_alike {n : Nat} {f : Addr} {fd : FuncData} (FF : Fun K "_law_alike" "_law_alike" sAlike f fd) (G : FnOk P w K mg base CX0 n f fd ["_law_found", "_law_due"] (spAl n)) (bG : Binds K fd ["_law_found", "_law_due"] []) (mG : mg "_law_alike" = some (.ref f))
    (mi : mg "isinstance" = none) (mt : mg "tuple" = none) (ml : mg "list" = none) (mn : mg "len" = none) (mr : mg "range" = none) (ms : mg "str" = none) (mint : mg "int" = none) (mb : mg "bool" = none) :
    FnOk P w K mg base CX0 (n + 1) f fd ["_law_found", "_law_due"] (spAl (n + 1)) := by
  refine FF.ok scAl (fun vs H Q E h => ?_) (fun cdv A outer_ s H vs Q E hr h => ?_)
  · obtain ⟨x, y, d, rfl, _⟩ := h
    rfl
  · obtain ⟨x, y, d, rfl, tx, ty, hd, q⟩ := h
    have kG := FF.kp
    refine ⟨_, pss_cons (ps_if (pt_val (pe_callB call_isiT (by rfl) mi (by decide +kernel) (pa_cons (pv 1) (pa_cons (pe_tup (pa_cons (pe_bltn (v := .ty "tuple") (by rfl) mt (by decide +kernel) rfl) (pa_cons (pe_bltn (v := .ty "list") (by rfl) ml (by decide +kernel) rfl) pa_nil))) pa_nil))))
        (pss_cons (ps_if (PW.pt (pw_or (pt_not (pt_val (pe_callB call_isiT (by rfl) mi (by decide +kernel) (pa_cons (pv 0) (pa_cons (pe_tup (pa_cons (pe_bltn (v := .ty "tuple") (by rfl) mt (by decide +kernel) rfl) (pa_cons (pe_bltn (v := .ty "list") (by rfl) ml (by decide +kernel) rfl) pa_nil))) pa_nil)))))
          (pw_or1 (pt_cmpR op_ne (pe_callB call_isi (by rfl) mi (by decide +kernel) (pa_cons (pv 0) (pa_cons (pe_bltn (v := .ty "list") (by rfl) ml (by decide +kernel) rfl) pa_nil))) (pe_callB call_isi (by rfl) mi (by decide +kernel) (pa_cons (pv 1) (pa_cons (pe_bltn (v := .ty "list") (by rfl) ml (by decide +kernel) rfl) pa_nil))) (nomark _)))))
          (pss_one (ps_ret pe_bl)) pss_nil)
        (pss_cons (ps_if (pt_cmpR op_ne (pe_callB call_len_seq (by rfl) mn PySem.boot_len (pa_cons (pv 0) pa_nil)) (pe_callB call_len_seq (by rfl) mn PySem.boot_len (pa_cons (pv 1) pa_nil)) (nomark _)) (pss_one (ps_ret pe_bl)) pss_nil)
        (pss_one (ps_ret (pe_cmpR (op_eqD hr.units)
          (pe_lc (own := [("_law_k", 2)]) (g := gName 2) (by rfl) scAl.nd (pi_range1 (by rfl) mr (pa_cons (pe_callB call_len_seq (by rfl) mn PySem.boot_len (pa_cons (pv 1) pa_nil)) pa_nil)) (blkOk_by (N := ["_law_found", "_law_due", "_law_k"]) (sc := defScope sAlike) (by decide +kernel))
            (fun _ _ _ _ _ => pg_name (i := 2) scAl.nd rfl (Or.inl rfl))
            (fun _ _ _ _ _ => pts_one (pt_not (pt_val (pe_call G hr (by rfl) mG kG bG .nil pass0 (pa_cons (pe_ix (r := rIxT K) ix_tup (pv 0) (pv 2) (fun _ _ => rfl)) (pa_cons (pe_ix (r := rIxT K) ix_tup (pv 1) (pv 2) (fun _ _ => rfl)) pa_nil))))))
            (fun _ _ _ _ _ => pv 2))
          (pe_lst pa_nil) (nomark _))))))
        pss_nil)
      (pss_cons (ps_if (PW.pt (pw_or (pt_cmp (pc_isN (pv 1))) (pw_or1 (pt_val (pe_callB call_isi (by rfl) mi (by decide +kernel) (pa_cons (pv 1) (pa_cons (pe_bltn (v := .ty "str") (by rfl) ms (by decide +kernel) rfl) pa_nil)))))))
        (pss_one (ps_ret (pe_and (pe_cmpR op_eq (pv 0) (pv 1) (nomark _)) (pe_one (pe_cmpR op_eq (pe_callB call_isi (by rfl) mi (by decide +kernel) (pa_cons (pv 0) (pa_cons (pe_bltn (v := .ty "str") (by rfl) ms (by decide +kernel) rfl) pa_nil))) (pe_callB call_isi (by rfl) mi (by decide +kernel) (pa_cons (pv 1) (pa_cons (pe_bltn (v := .ty "str") (by rfl) ms (by decide +kernel) rfl) pa_nil))) (nomark _)))))) pss_nil)
      (pss_one (ps_ret (pe_and (pe_callB call_isi (by rfl) mi (by decide +kernel) (pa_cons (pv 0) (pa_cons (pe_bltn (v := .ty "int") (by rfl) mint (by decide +kernel) rfl) pa_nil)))
        (pe_and (pe_cmpR op_eq (pe_callB call_isi (by rfl) mi (by decide +kernel) (pa_cons (pv 0) (pa_cons (pe_bltn (v := .ty "bool") (by rfl) mb (by decide +kernel) rfl) pa_nil))) (pe_callB call_isi (by rfl) mi (by decide +kernel) (pa_cons (pv 1) (pa_cons (pe_bltn (v := .ty "bool") (by rfl) mb (by decide +kernel) rfl) pa_nil))) (nomark _))
          (pe_one (pe_cmpR op_eq (pv 0) (pv 1) (nomark _)))))))), ?_⟩
    cases d with
    | bool b => cases tx
    | str b => cases tx
    | list b => cases tx
    | dict b => cases tx
    | none =>
      cases tx
      cases ty
      refine ⟨_, rfl, (by show 2 ≤ sizeLine; decide), fun p np => ⟨.non, p, _, .type "NoneType", [.type "tuple", .type "list"], false, rfl, upd_same, .cons (.ty _) (.cons (.ty _) .nil), .base .non, any_no (kit_ty (by decide +kernel)) (kit_ty (by decide +kernel)), _, rfl, iteF ?_⟩⟩
      refine ⟨_, rfl, _, rfl, ?_⟩
      rw [decide_eq_true rfl]
      refine iteT (iteT ?_)
      refine ⟨_, rfl, _, rfl, rfl, _, rfl, ?_⟩
      rw [decide_eq_true rfl]
      refine iteT ?_
      refine ⟨_, rfl, .non, .ty "str", .type "NoneType", .type "str", false, rfl, .ty _, .base .non, kit_ty (by decide +kernel), _, rfl, .non, .ty "str", .type "NoneType", .type "str", false, rfl, .ty _, .base .non, kit_ty (by decide +kernel), rfl, ?_⟩
      rw [decide_eq_true rfl]
      exact q _ (same_new np _)
    | int i =>
      cases tx
      cases ty
      refine ⟨_, rfl, (by show 2 ≤ sizeLine; decide), fun p np => ⟨.int i, p, _, .type "int", [.type "tuple", .type "list"], false, rfl, upd_same, .cons (.ty _) (.cons (.ty _) .nil), .base (.int i), any_no (kit_ty (by decide +kernel)) (kit_ty (by decide +kernel)), _, rfl, iteF ?_⟩⟩
      refine ⟨_, rfl, _, rfl, ?_⟩
      rw [decide_eq_false (show ¬ V.int i = V.non from fun z => by cases z)]
      refine iteF ?_
      refine ⟨_, rfl, .int i, .ty "str", .type "int", .type "str", false, rfl, .ty _, .base (.int i), kit_ty (by decide +kernel), _, rfl, iteF ?_⟩
      refine ⟨_, rfl, .int i, .ty "int", .type "int", .type "int", true, rfl, .ty _, .base (.int i), kit_ty (by decide +kernel), _, rfl, iteT ?_⟩
      refine ⟨_, rfl, .int i, .ty "bool", .type "int", .type "bool", false, rfl, .ty _, .base (.int i), kit_ty (by decide +kernel), _, rfl, .int i, .ty "bool", .type "int", .type "bool", false, rfl, .ty _, .base (.int i), kit_ty (by decide +kernel), rfl, _, rfl, ?_⟩
      rw [decide_eq_true rfl]
      refine iteT ?_
      refine ⟨_, rfl, _, rfl, rfl, ?_⟩
      rw [decide_eq_true rfl]
      exact q _ (same_new np _)
    | tuple ds =>
      obtain ⟨a, xs, rfl, ha, hl, hx⟩ : ∃ a xs, x = .ref a ∧ H a = some (.tup xs) ∧ ds.length ≤ 1000 ∧ TdAll H xs ds := by
        cases tx with
        | tup e l t => exact ⟨_, _, rfl, e, l, t⟩
      obtain ⟨b, ys, rfl, hb, hy⟩ : ∃ b ys, y = .ref b ∧ H b = some (.tup ys) ∧ TdAll H ys ds := by
        cases ty with
        | tup e l t => exact ⟨_, _, rfl, e, t⟩
      have lx := hx.length
      have ly := hy.length
      -- isinstance(due, (tuple, list))
      refine ⟨_, rfl, (by show 2 ≤ sizeLine; decide), fun p np => ⟨.ref b, p, _, .type "tuple", [.type "tuple", .type "list"], true, rfl, upd_same, .cons (.ty _) (.cons (.ty _) .nil), .base (.tup (same_new np _ _ _ hb)), any_tup, _, rfl, iteT ?_⟩⟩
      have s1 := same_new np (.tup [.ty "tuple", .ty "list"])
      generalize upd H p (.tup [.ty "tuple", .ty "list"]) = H1 at s1 ⊢
      -- isinstance(found, (tuple, list))
      refine ⟨_, rfl, (by show 2 ≤ sizeLine; decide), fun p2 np2 => ⟨.ref a, p2, _, .type "tuple", [.type "tuple", .type "list"], true, rfl, upd_same, .cons (.ty _) (.cons (.ty _) .nil), .base (.tup (same_new np2 _ _ _ (s1 _ _ ha))), any_tup, _, rfl, iteF ?_⟩⟩
      have s2 := s1.trans (same_new np2 (.tup [.ty "tuple", .ty "list"]))
      generalize upd H1 p2 (.tup [.ty "tuple", .ty "list"]) = H2 at s2 ⊢
      refine ⟨_, rfl, .ref a, .ty "list", .type "tuple", .type "list", false, rfl, .ty _, .base (.tup (s2 _ _ ha)), kit_ty (by decide +kernel), _, rfl, .ref b, .ty "list", .type "tuple", .type "list", false, rfl, .ty _, .base (.tup (s2 _ _ hb)), kit_ty (by decide +kernel), rfl, _, rfl, ?_⟩
      rw [decide_eq_true rfl]
      refine iteF ?_
      -- len(found) != len(due)
      refine ⟨_, rfl, a, xs, rfl, .inr (SqT.of (s2 _ _ ha)), _, rfl, b, ys, rfl, .inr (SqT.of (s2 _ _ hb)), rfl, _, rfl, ?_⟩
      rw [decide_eq_true (show V.int ((xs.length : Nat) : Int) = V.int ((ys.length : Nat) : Int) by rw [lx, ly])]
      refine iteF ?_
      -- the comprehension
      refine ⟨_, rfl, b, ys, rfl, .inr (SqT.of (s2 _ _ hb)), ((ys.length : Nat) : Int), rfl, by omega, by omega, fun D nD => ?_⟩
      refine lc_range (lo := 0) (n := (((ys.length : Nat) : Int)).toNat) (fun i H3 => Same H2 H3 ∧ H3 D = some (.lst [])) ⟨same_new nD _, upd_same⟩ ?_ ?_
      · rintro i H3 hi ⟨s3, eD⟩
        have hil : i < ds.length := by omega
        have ei := List.getElem?_eq_getElem hil
        obtain ⟨v1, g1, t1⟩ := hx.get ei
        obtain ⟨v2, g2, t2⟩ := hy.get ei
        have s03 := s2.trans s3
        have z : (0 : Int) + (i : Int) = ((i : Nat) : Int) := by omega
        rw [z]
        refine ⟨rfl, ?_⟩
        refine ⟨_, rfl, _, rfl, a, xs, _, v1, rfl, rfl, SqT.of (s03 _ _ ha), atI_nat g1, _, rfl, _, rfl, b, ys, _, v2, rfl, rfl, SqT.of (s03 _ _ hb), atI_nat g2, ?_⟩
        refine ⟨v1, v2, ds[i], rfl, Td.keep (TS.of s03) _ _ t1, Td.keep (TS.of s03) _ _ t2, ?_, fun H4 s4 => ⟨_, rfl, ?_⟩⟩
        · have h1 := depth_mem ei
          have h2 : PyData.depthAll ds + 1 < n + 1 := by simpa only [PyData.depth] using hd
          omega
        · refine iteF ?_
          exact ⟨s3.trans s4, s4 _ _ eD⟩
      · rintro H3 ⟨s3, eD⟩
        refine ⟨Nat.zero_le _, fun p3 np3 => ?_⟩
        have s4 := same_new np3 (.lst [])
        refine ⟨.list [], .list [], .lst (SqL.of (s4 _ _ eD)) .nil, .lst (SqL.of upd_same) .nil, shaped_nil, shaped_nil, ?_⟩
        rw [eqv_nil]
        exact q _ (s2.trans (s3.trans s4))
theorem none_left {f : Addr} {fd : FuncData} : FnOk P w K mg base CX0 0 f fd ["_law_found", "_law_due"] (spAl 0) := by
  have no : ∀ vs H Q E, ¬ spAl 0 vs H Q E := fun vs H Q E h => by
    obtain ⟨x, y, d, _, _, _, h1, _⟩ := h
    exact absurd h1 (Nat.not_lt_zero _)
  exact ⟨fun vs H Q E h => absurd h (no vs H Q E), fun A outer s H args us vs Q E _ _ _ _ h => absurd h (no vs H Q E)⟩
theorem alike_all {f : Addr} {fd : FuncData} (FF : Fun K "_law_alike" "_law_alike" sAlike f fd) (bG : Binds K fd ["_law_found", "_law_due"] []) (mG : mg "_law_alike" = some (.ref f))
    (mi : mg "isinstance" = none) (mt : mg "tuple" = none) (ml : mg "list" = none) (mn : mg "len" = none) (mr : mg "range" = none) (ms : mg "str" = none) (mint : mg "int" = none) (mb : mg "bool" = none) :
    ∀ n : Nat, FnOk P w K mg base CX0 n f fd ["_law_found", "_law_due"] (spAl n)
  | 0 => none_left
  | n + 1 => ok_alike FF (alike_all FF bG mG mi mt ml mn mr ms mint mb n) bG mG mi mt ml mn mr ms mint mb
end
end K88
namespace K88
open PySem L2
/-! ### what is told -/
theorem lay_told : ∀ xs : List (Int × (Int × Int)), PyData.canLayAll0 (xs.map tD) = true
  | [] => by simp [PyData.canLayAll0]
  | x :: xs => by simp [PyData.canLayAll0, tD, PyData.canLay0, lay_told xs]
theorem depth_told : ∀ xs : List (Int × (Int × Int)), PyData.depthAll (xs.map tD) ≤ 2
  | [] => by simp [PyData.depthAll]
  | x :: xs => by
    have h := depth_told xs
    simp only [List.map_cons, PyData.depthAll, tD, PyData.depth]
    omega
theorem shaped_told (xs : List (Int × (Int × Int))) : SeqAt.shaped (.list (xs.map tD)) = true := by
  have h := depth_told xs
  show (PyData.canLay0 (.list (xs.map tD)) && decide (PyData.depth (.list (xs.map tD)) ≤ 64)) = true
  rw [Bool.and_eq_true]
  refine ⟨by simp only [PyData.canLay0]; exact lay_told xs, decide_eq_true ?_⟩
  simp only [PyData.depth]
  omega
theorem depth_pairs : ∀ L : List (Nat × Nat), PyData.depthAll (L.map pD) ≤ 1
  | [] => by simp [PyData.depthAll]
  | p :: L => by
    have h := depth_pairs L
    simp only [List.map_cons, PyData.depthAll, pD, PyData.depth]
    omega
theorem depth_best (m : Nat) : (bestD m).depth < 3 := by
  have h := depth_pairs (best m (G m)).2
  have h2 : (oD (best m (G m)).1).depth = 0 := by
    cases (best m (G m)).1 with
    | none => simp [oD, PyData.depth]
    | some b => simp [oD, PyData.depth]
  unfold bestD
  simp only [PyData.depth, PyData.depthAll, h2]
  omega
theorem best12_is : bestD 12 = .tuple [.int 2, .tuple [.int 2, .int 3]] := by
  unfold bestD
  rw [best_12]
  rfl
/-- the told list at tl -/
def TA (m : Nat) (H : Hp) (tl : Addr) (L : List (Nat × Nat)) : Prop := ∃ ps, H tl = some (.lst ps) ∧ TdAll H ps ((L.map (tell m)).map tD)
theorem TA.keep {m : Nat} {H1 H2 : Hp} {tl : Addr} {L : List (Nat × Nat)} (a : TA m H1 tl L) (s : Same H1 H2) : TA m H2 tl L := by
  obtain ⟨ps, e1, e2⟩ := a
  exact ⟨ps, s _ _ e1, TdAll.keep (TS.of s) _ _ e2⟩
theorem TA.push {m : Nat} {H : Hp} {tl t1 t2 : Addr} {L : List (Nat × Nat)} {ps : List V} {r u : Nat} (e1 : H tl = some (.lst ps)) (e2 : TdAll H ps ((L.map (tell m)).map tD)) (n2 : H t2 = none)
    (n1 : (upd H t2 (.tup [.int (r : Int), .int (u : Int)])) t1 = none) :
    TA m (upd (upd (upd H t2 (.tup [.int (r : Int), .int (u : Int)])) t1 (.tup [.int ((F m (r, u) : Nat) : Int), .ref t2])) tl (.lst (ps ++ [.ref t1]))) tl (L ++ [(r, u)]) := by
  have s1 := same_new n2 (.tup [.int (r : Int), .int (u : Int)])
  have s2 := same_new n1 (.tup [.int ((F m (r, u) : Nat) : Int), .ref t2])
  have e1' := s2 _ _ (s1 _ _ e1)
  have ts := TS.lst e1' (.lst (ps ++ [.ref t1]))
  refine ⟨_, upd_same, ?_⟩
  rw [List.map_append, List.map_append]
  refine TdAll.snoc (TdAll.keep ts _ _ (TdAll.keep (TS.of (s1.trans s2)) _ _ e2)) ?_
  refine .tup (ts _ _ upd_same) (by show 2 ≤ 1000; decide) (.cons (.int _) (.cons ?_ .nil))
  exact .tup (ts _ _ (s2 _ _ upd_same)) (by show 2 ≤ 1000; decide) (.cons (.int _) (.cons (.int _) .nil))
theorem td_told {H : Hp} {v : V} {x : Int × (Int × Int)} (h : Td H v (tD x)) : ∃ a w, v = .ref a ∧ H a = some (.tup [.int x.1, w]) ∧ Td H w (.tuple [.int x.2.1, .int x.2.2]) := by
  unfold tD at h
  cases h with
  | tup e l t =>
    cases t with
    | cons h1 t =>
      cases h1
      cases t with
      | cons h2 t =>
        cases t
        exact ⟨_, _, rfl, e, h2⟩
def spLaw (K : PySem.W.Frag) : Sp := fun vs H Q _ => ∃ (a : Addr) (ns : List Int), vs = [.ref a] ∧ SqL K H a (ns.map V.int) ∧ ns.length ≤ 63 ∧ ∀ H', Q (.bl true) H'
section
variable {P : Program} {w : World} {K : PySem.W.Frag} {mg : Str → Option Value} {base : Heap}
abbrev nLaw : List Str := ["_law_script", "_law_row", "_law_many", "_law_told", "_law_right", "_law_up", "_law_least", "_law_far", "_law_pair"]
theorem scLaw : FnScope nLaw ["_law_script"] (defScope sLaw) := ⟨rfl, rfl, rfl, by decide +kernel, rfl, by decide +kernel, by decide +kernel⟩
theorem ok_law {f gt gh gd gb ga : Addr} {fd ft fh fdd fb fa : FuncData} (FF : Fun K "law" "law" sLaw f fd)
    (GT : FnOk P w K mg base CX0 1 gt ft ["_law_row", "_law_many"] (spTaken K)) (bT : Binds K ft ["_law_row", "_law_many"] []) (kT : PySem.W.keepIn K (.ref gt) = true) (mT : mg "_law_taken" = some (.ref gt))
    (GH : FnOk P w K mg base CX0 4 gh fh ["many", "right", "up"] spHas) (bH : Binds K fh ["many", "right", "up"] []) (kH : PySem.W.keepIn K (.ref gh) = true) (mH : mg "has_all" = some (.ref gh))
    (GD : FnOk P w K mg base CX0 4 gd fdd ["many", "right", "up"] spDist) (bD : Binds K fdd ["many", "right", "up"] []) (kD : PySem.W.keepIn K (.ref gd) = true) (mD : mg "distances" = some (.ref gd))
    (GB : FnOk P w K mg base CX0 5 gb fb ["many"] spBest) (bB : Binds K fb ["many"] []) (kB : PySem.W.keepIn K (.ref gb) = true) (mB : mg "best_layouts" = some (.ref gb))
    (GA : FnOk P w K mg base CX0 3 ga fa ["_law_found", "_law_due"] (spAl 3)) (bA : Binds K fa ["_law_found", "_law_due"] []) (kA : PySem.W.keepIn K (.ref ga) = true) (mA : mg "_law_alike" = some (.ref ga))
    (mr : mg "range" = none) (mmax : mg "max" = none) (mmin : mg "min" = none) (mt : mg "tuple" = none) : FnOk P w K mg base CX0 6 f fd ["_law_script"] (spLaw K) := by
  refine FF.ok scLaw (fun vs H Q E h => ?_) (fun cdv A outer_ s H vs Q E hr h => ?_)
  · obtain ⟨a, ns, rfl, _⟩ := h
    rfl
  · obtain ⟨a, ns, rfl, hS, hns, q⟩ := h
    have hr1 : Room 1 _ := hr.mono (by decide)
    have hr3 : Room 3 _ := hr.mono (by decide)
    have hr4 : Room 4 _ := hr.mono (by decide)
    refine ⟨_, pss_cons (ps_set (i := 1) scLaw.nd rfl (.inl rfl) (pe_lst (pa_cons (pv 0) (pa_cons pe_int (pa_cons pe_int (pa_cons pe_int pa_nil))))))
      (pss_cons (ps_set (i := 2) scLaw.nd rfl (.inl rfl) (pe_op op_add pe_int (pe_call GT hr1 (by rfl) mT kT bT .nil pass0 (pa_cons (pv 1) (pa_cons pe_int pa_nil)))))
      (pss_cons (ps_set (i := 3) scLaw.nd rfl (.inl rfl) (pe_lst pa_nil))
      (pss_cons (ps_for PassesOwn.never rfl (pi_range2 (by rfl) mr (pa_cons pe_int (pa_cons (pe_op op_add (pe_op op_fdiv (pv 2) pe_int) pe_int) pa_nil))) (pg_name (i := 4) scLaw.nd rfl (.inl rfl))
        (pss_one (ps_for PassesOwn.never rfl (pi_range2 (by rfl) mr (pa_cons (pe_op op_add (pv 4) pe_int) (pa_cons (pe_op op_add (pe_op op_fdiv (pv 2) pe_int) pe_int) pa_nil))) (pg_name (i := 5) scLaw.nd rfl (.inl rfl))
          (pss_one (ps_if (pt_val (pe_call GH hr4 (by rfl) mH kH bH .nil pass0 (pa_cons (pv 2) (pa_cons (pv 4) (pa_cons (pv 5) pa_nil)))))
            (pss_one (ps_expr (pe_bm PySem.F.plainAttrs_list PySem.F.slot_list_append PySem.F.type_list_append mt_append (pv 3) (pa_cons (pe_tup (pa_cons (pe_callB (cr_maxT rfl hr.units) (by rfl) mmax (by decide +kernel) (pa_cons (pe_call GD hr4 (by rfl) mD kD bD .nil pass0 (pa_cons (pv 2) (pa_cons (pv 4) (pa_cons (pv 5) pa_nil)))) pa_nil))
              (pa_cons (pe_tup (pa_cons (pv 4) (pa_cons (pv 5) pa_nil))) pa_nil))) pa_nil))))
            pss_nil)))))
      (pss_cons (ps_if (pt_cmpR (op_eqD hr.units) (pv 3) (pe_lst pa_nil) (nomark _))
        (pss_one (ps_ret (pe_call GA hr3 (by rfl) mA kA bA .nil pass0 (pa_cons (pe_call GB hr (by rfl) mB kB bB .nil pass0 (pa_cons (pv 2) pa_nil)) (pa_cons (pe_tup (pa_cons pe_non pa_nil)) pa_nil))))) pss_nil)
      (pss_cons (ps_set (i := 6) scLaw.nd rfl (.inr rfl) (pe_ix ix_tup (pe_callB (cr_minT rfl hr.units) (by rfl) mmin (by decide +kernel) (pa_cons (pv 3) pa_nil)) pe_int (fun _ _ => rfl)))
      (pss_one (ps_ret (pe_and (pe_call GA hr3 (by rfl) mA kA bA .nil pass0 (pa_cons (pe_call GB hr (by rfl) mB kB bB .nil pass0 (pa_cons (pv 2) pa_nil)) (pa_cons
          (pe_op op_catT (pe_tup (pa_cons (pv 6) pa_nil)) (pe_callTy call_tuple_of (by rfl) mt (by decide +kernel) (pa_cons
            (pe_lc (own := [("_law_far", 7), ("_law_pair", 8)]) (g := gTup K 2 (gCons (gName 7) (gCons (gName 8) gNil))) (by rfl) scLaw.nd (pi_list (pv 3)) (blkOk_by (N := nLaw) (sc := defScope sLaw) (by decide +kernel))
              (fun _ _ _ _ _ => pg_tup rfl (pgs_cons (pg_name (i := 7) scLaw.nd rfl (Or.inl rfl)) (pgs_cons (pg_name (i := 8) scLaw.nd rfl (Or.inl rfl)) pgs_nil)))
              (fun _ _ _ _ _ => pts_one (pt_cmpR op_eq (pv 7) (pv 6) (nomark _)))
              (fun _ _ _ _ _ => pv 8)) pa_nil))) pa_nil)))
        (pe_one (pe_cmpR (op_eqD hr.units) (pe_call GB hr (by rfl) mB kB bB .nil pass0 (pa_cons pe_int pa_nil)) (pe_tup (pa_cons pe_int (pa_cons (pe_tup (pa_cons pe_int (pa_cons pe_int pa_nil))) pa_nil))) (nomark _))))))))))), ?_⟩
    -- row = [script, 0, 4288, 0]
    refine ⟨_, rfl, (by show 4 ≤ sizeLine; decide), fun row nrow => ?_⟩
    have srow := same_new nrow (.lst [.ref a, .int 0, .int 4288, .int 0])
    -- many = 3 + taken
    refine ⟨_, rfl, row, a, H, ns, rfl, nrow, hS, srow, upd_same, fun k0 H1 hk0 => ?_⟩
    refine ⟨_, _, rfl, rfl, ?_⟩
    obtain ⟨m, hm⟩ : ∃ m : Nat, m = 3 + k0 := ⟨_, rfl⟩
    have h3 : 3 ≤ m := by omega
    have h26 : m ≤ 26 := by omega
    show gName 2 (V.int ((3 : Int) + (k0 : Int))) _ _ _
    rw [show (3 : Int) + (k0 : Int) = (m : Int) by omega]
    clear hm hk0 srow nrow
    -- told = []
    refine ⟨Nat.zero_le _, fun tl ntl => ?_⟩
    have b0 : TA m (upd H1 tl (.lst [])) tl ((outer (m / 2) 0).filter (isG m)) := ⟨[], upd_same, .nil⟩
    generalize upd H1 tl (.lst []) = H2 at b0 ⊢
    clear ntl
    -- the outer loop
    have en : ((m : Int) / 2 + 1 - 1).toNat = m / 2 := by omega
    refine ⟨_, rfl, _, _, rfl, rfl, ⟨by decide, by decide⟩, _, _, rfl, rfl, 1, (m : Int) / 2 + 1, rfl, ⟨by omega, by omega, by omega, by omega⟩,
      for_range (lo := 1) (n := ((m : Int) / 2 + 1 - 1).toNat) (fun i σ H3 => ∃ (y4 y5 : Option V),
        σ = [some (.ref a), some (.ref row), some (.int m), some (.ref tl), y4, y5, none, none, none] ∧ TA m H3 tl ((outer (m / 2) i).filter (isG m)))
      ⟨none, none, rfl, b0⟩ ?_ ?_⟩
    · clear b0
      rintro i σ H3 hi ⟨y4, y5, rfl, b⟩
      have him : i < m / 2 := by omega
      rw [show (1 + (i : Int)) = ((i + 1 : Nat) : Int) by omega]
      have en2 : ((m : Int) / 2 + 1 - (((i + 1 : Nat) : Int) + 1)).toNat = m / 2 - (i + 1) := by omega
      refine ⟨_, rfl, _, _, rfl, rfl, _, rfl, _, _, rfl, rfl, ⟨by decide, by decide⟩, _, _, rfl, rfl, ((i + 1 : Nat) : Int) + 1, (m : Int) / 2 + 1, rfl, ⟨by omega, by omega, by omega, by omega⟩, ?_⟩
      refine for_range (lo := ((i + 1 : Nat) : Int) + 1) (n := ((m : Int) / 2 + 1 - (((i + 1 : Nat) : Int) + 1)).toNat) (fun j σ H4 => ∃ (y5 : Option V),
        σ = [some (.ref a), some (.ref row), some (.int m), some (.ref tl), some (.int ((i + 1 : Nat) : Int)), y5, none, none, none] ∧ TA m H4 tl (met m i j))
        ⟨y5, rfl, by rw [met_zero]; exact b⟩ ?_ ?_
      · clear b
        rintro j σ H4 hj ⟨z5, rfl, b⟩
        have hjm : j < m / 2 - (i + 1) := by omega
        rw [show (((i + 1 : Nat) : Int) + 1 + (j : Int)) = ((i + 1 + 1 + j : Nat) : Int) by omega]
        refine ⟨_, rfl, _, rfl, _, rfl, m, i + 1, i + 1 + 1 + j, rfl, by omega, by omega, by omega, by omega, _, rfl, ?_⟩
        have hlen := met_len h26 him (Nat.le_of_lt hjm)
        cases hg : isG m (i + 1, i + 1 + 1 + j) with
        | false =>
          refine iteF ?_
          have e : met m i (j + 1) = met m i j := by
            rw [met_succ, hg]
            exact List.append_nil _
          refine ⟨some (.int ((i + 1 + 1 + j : Nat) : Int)), rfl, ?_⟩
          rw [e]
          exact b
        | true =>
          refine iteT ?_
          have hok := all_ok h3 h26 (met_mem him hjm hg)
          have e : met m i (j + 1) = met m i j ++ [(i + 1, i + 1 + 1 + j)] := by
            rw [met_succ, if_pos hg]
          rw [e]
          clear e
          obtain ⟨ps, e1, e2⟩ := id b
          have hps : ps.length ≤ 400 := by
            have h1 := e2.length
            rw [List.length_map, List.length_map] at h1
            rw [h1]
            exact hlen
          refine ⟨.ref tl, rfl, .inl ⟨rfl, _, SqL.of e1⟩, _, rfl, _, rfl, _, rfl, m, i + 1, i + 1 + 1 + j, rfl, by omega, by omega, by omega, by omega, hok, fun H5 p s5 e5 => ?_⟩
          refine ⟨p, (D m (i + 1) (i + 1 + 1 + j)).map (fun (n : Nat) => (n : Int)), rfl, by rw [← nsL_map]; exact SqT.of e5, ?_, fun M hM hle => ?_⟩
          · unfold D
            rw [List.length_map, List.length_map, List.length_range]
            omega
          have eM := F_is (p := (i + 1, i + 1 + 1 + j)) hM hle
          subst eM
          refine ⟨_, rfl, _, rfl, (by show 2 ≤ sizeLine; decide), fun t2 nt2 => ⟨(by show 2 ≤ sizeLine; decide), fun t1 nt1 => ?_⟩⟩
          refine ⟨tl, ps, _, rfl, rfl, same_new nt1 _ _ _ (same_new nt2 _ _ _ (s5 _ _ e1)), small1000 (by omega), ?_⟩
          exact ⟨_, rfl, TA.push (s5 _ _ e1) (TdAll.keep (TS.of s5) _ _ e2) nt2 nt1⟩
      · rintro σ H4 ⟨z5, rfl, b⟩
        rw [en2, met_end] at b
        exact ⟨_, _, rfl, b⟩
    · rintro σ H3 ⟨y4, y5, rfl, b⟩
      rw [en] at b
      replace b : TA m H3 tl (K88.G m) := b
      obtain ⟨ps, e1, e2⟩ := b
      have hps : ps.length ≤ 400 := by
        have h1 := e2.length
        rw [List.length_map, List.length_map] at h1
        rw [h1]
        refine Nat.le_trans (List.length_filter_le _ _) ?_
        have h1 := outer_len (m / 2) (m / 2)
        have h2 : (m / 2) * (m / 2) ≤ 13 * 13 := Nat.mul_le_mul (by omega) (by omega)
        omega
      -- told == []
      refine ⟨_, rfl, Nat.zero_le _, fun p0 np0 => ?_⟩
      have s0 := same_new np0 (.lst [])
      refine ⟨_, _, .lst (SqL.of (s0 _ _ e1)) (TdAll.dp _ _ (TdAll.keep (TS.of s0) _ _ e2)), .lst (SqL.of upd_same) .nil, shaped_told _, shaped_nil, _, rfl, ?_⟩
      rw [eqv_nil]
      replace e1 := s0 _ _ e1
      replace e2 := TdAll.keep (TS.of s0) _ _ e2
      generalize upd H3 p0 (.lst []) = H4 at e1 e2 ⊢
      clear s0 np0
      cases eg : (K88.G m).map (tell m) with
      | nil =>
        refine iteT ?_
        have eG : K88.G m = [] := List.map_eq_nil_iff.mp eg
        have ebd : bestD m = .tuple [.none] := by
          unfold bestD
          rw [eG]
          rfl
        refine ⟨_, rfl, m, rfl, h3, h26, fun H5 v5 s5 t5 => ?_⟩
        refine ⟨(by show 1 ≤ sizeLine; decide), fun p np => ?_⟩
        refine ⟨v5, .ref p, bestD m, rfl, Td.keep (TS.new np _) _ _ t5, ?_, depth_best m, fun H6 _ => q H6⟩
        rw [ebd]
        exact .tup upd_same (by show 1 ≤ 1000; decide) (.cons .non .nil)
      | cons x xs =>
        refine iteF ?_
        obtain ⟨μ, eμ, ebest⟩ := least_is eg
        have ebd : bestD m = .tuple (.int (μ : Int) :: ((K88.G m).filter fun p => decide (F m p = μ)).map pD) := by
          unfold bestD
          rw [ebest]
          rfl
        -- least = min(told)[0]
        refine ⟨_, rfl, tl, ps, x, xs, rfl, SqL.of e1, by rw [← eg]; exact e2, fun v tv => ?_⟩
        obtain ⟨am, wm, rfl, em, _⟩ := td_told tv
        refine ⟨am, _, 0, _, rfl, rfl, SqT.of em, rfl, ?_⟩
        rw [eμ]
        -- best_layouts(many)
        refine ⟨_, rfl, m, rfl, h3, h26, fun H5 v5 s5 t5 => ?_⟩
        -- (least,)
        refine ⟨_, rfl, (by show 1 ≤ sizeLine; decide), fun p1 np1 => ?_⟩
        have s6 := same_new np1 (.tup [.int (μ : Int)])
        have ep1 : (upd H5 p1 (.tup [.int (μ : Int)])) p1 = some (.tup [.int (μ : Int)]) := upd_same
        replace e1 := s6 _ _ (s5 _ _ e1)
        replace e2 := TdAll.keep (TS.of s6) _ _ (TdAll.keep (TS.of s5) _ _ e2)
        replace t5 := Td.keep (TS.of s6) _ _ t5
        generalize upd H5 p1 (.tup [.int (μ : Int)]) = H6 at e1 e2 t5 ep1 ⊢
        clear s6 np1
        -- the comprehension
        refine ⟨_, rfl, tl, rfl, ⟨_, SqL.of e1⟩, fun DD nD => ?_⟩
        refine lc_list (K := K) (a := tl) (xs := ps) (fun i H7 => Same H6 H7 ∧ ∃ acc, H7 DD = some (.lst acc) ∧ TdAll H7 acc ((((K88.G m).take i).filter fun p => decide (F m p = μ)).map pD))
          ⟨same_new nD _, [], upd_same, by rw [List.take_zero]; exact .nil⟩ (fun i H7 _ ⟨s7, _⟩ => SqL.of (s7 _ _ e1)) ?_ ?_
        · rintro i x' H7 hx ⟨s7, acc, eD, tA⟩
          obtain ⟨d, hd, td⟩ := e2.get' hx
          obtain ⟨p, hp, rfl⟩ : ∃ p, (K88.G m)[i]? = some p ∧ d = tD (tell m p) := by
            rw [List.getElem?_map, List.getElem?_map] at hd
            cases z : (K88.G m)[i]? with
            | none => rw [z] at hd; cases hd
            | some p => rw [z] at hd; exact ⟨p, rfl, (Option.some.inj hd).symm⟩
          obtain ⟨ap, wp, rfl, eap, twp⟩ := td_told td
          have hacc : acc.length ≤ 400 := by
            have h1 := tA.length
            rw [List.length_map] at h1
            rw [h1]
            refine Nat.le_trans (List.length_filter_le _ _) ?_
            rw [List.length_take]
            have h2 := e2.length
            rw [List.length_map, List.length_map] at h2
            omega
          have etk : (K88.G m).take (i + 1) = (K88.G m).take i ++ [p] := by
            rw [List.take_add_one, hp]
            rfl
          refine ⟨ap, _, rfl, SqT.of (s7 _ _ eap), rfl, _, _, rfl, _, _, rfl, rfl, ?_⟩
          refine ⟨rfl, ?_⟩
          refine ⟨_, rfl, _, rfl, rfl, _, rfl, ?_⟩
          by_cases hf : F m p = μ
          · rw [decide_eq_true (show V.int (tell m p).1 = V.int (μ : Int) by rw [← hf]; rfl)]
            refine iteT ?_
            refine ⟨_, rfl, acc, eD, small1000 (by omega), ?_⟩
            have nD6 : H6 DD = none := nD
            refine ⟨fun b o z => ?_, _, upd_same, ?_⟩
            · rw [upd_ne (ne_of_none z nD6)]
              exact s7 b o z
            · rw [etk, List.filter_append, List.filter_cons_of_pos (by simpa using hf), List.filter_nil, List.map_append]
              have ts := TS.lst eD (.lst (acc ++ [wp]))
              exact TdAll.snoc (TdAll.keep ts _ _ tA) (Td.keep ts _ _ (Td.keep (TS.of s7) _ _ twp))
          · rw [decide_eq_false (show ¬ V.int (tell m p).1 = V.int (μ : Int) from fun z => hf (by
              injection z with z
              have z : ((F m p : Nat) : Int) = (μ : Int) := z
              omega))]
            refine iteF ?_
            refine ⟨s7, acc, eD, ?_⟩
            rw [etk, List.filter_append, List.filter_cons_of_neg (by simpa using hf), List.filter_nil, List.append_nil]
            exact tA
        · rintro H7 ⟨s7, acc, eD, tA⟩
          have hl2 : ps.length = (K88.G m).length := by
            have h2 := e2.length
            rw [List.length_map, List.length_map] at h2
            exact h2
          rw [hl2, List.take_length] at tA
          have hacc : acc.length ≤ 400 := by
            have h1 := tA.length
            rw [List.length_map] at h1
            rw [h1]
            refine Nat.le_trans (List.length_filter_le _ _) ?_
            omega
          have hds : (((K88.G m).filter fun p => decide (F m p = μ)).map pD).length ≤ 400 := by
            rw [← tA.length]
            exact hacc
          -- tuple(..)
          refine ⟨DD, acc, rfl, .inl ⟨SqL.of eD, fun t nt => ?_⟩⟩
          have s8 := same_new nt (.tup acc)
          have s68 := s7.trans s8
          have tA8 := TdAll.keep (TS.of s8) _ _ tA
          have et : (upd H7 t (.tup acc)) t = some (.tup acc) := upd_same
          generalize upd H7 t (.tup acc) = H8 at s8 s68 tA8 et ⊢
          -- the rest, whichever tuple it is
          have rest : ∀ (H9 : Hp) (v9 : V), Same H6 H9 → Td H9 v9 (bestD m) → spAl 3 [v5, v9] H9 (fun v H10 => ∃ c, v = .bl c ∧ if c = true then (tOp (rEqD K) (tCall spBest [] E0 (tCons (tC (.int 12)) tNil)) (tTup (tCons (tC (.int 2)) (tCons (tTup (tCons (tC (.int 2)) (tCons (tC (.int 3)) tNil))) tNil)))) [] H10 Q else Q (.bl false) H10) E0 := by
            intro H9 v9 s9 t9
            refine ⟨v5, v9, bestD m, rfl, Td.keep (TS.of s9) _ _ t5, t9, depth_best m, fun H10 s10 => ⟨_, rfl, iteT ?_⟩⟩
            refine ⟨12, rfl, by decide, by decide, fun H11 v11 s11 t11 => ?_⟩
            refine ⟨(by show 2 ≤ sizeLine; decide), fun p3 np3 => ⟨(by show 2 ≤ sizeLine; decide), fun p4 np4 => ?_⟩⟩
            have s12 := (same_new np3 (.tup [.int 2, .int 3])).trans (same_new np4 (.tup [.int 2, .ref p3]))
            rw [best12_is] at t11
            refine ⟨_, _, Td.dp _ _ (Td.keep (TS.of s12) _ _ t11), .tup (SqT.of upd_same) (.cons (.int 2) (.cons (.tup (SqT.of (same_new np4 _ _ _ upd_same)) (.cons (.int 2) (.cons (.int 3) .nil))) .nil)), by decide +kernel, by decide +kernel, ?_⟩
            rw [show PyData.eqv (.tuple [.int 2, .tuple [.int 2, .int 3]]) (.tuple [.int 2, .tuple [.int 2, .int 3]]) = true by decide +kernel]
            exact q _
          refine ⟨p1, t, [.int (μ : Int)], acc, rfl, rfl, SqT.of (s68 _ _ ep1), SqT.of et, (by intro z; cases z), (by show 1 + acc.length ≤ sizeLine; exact Nat.le_of_lt (small1000 (by omega))), fun e0 => ?_, fun _ p2 np2 => ?_⟩
          · subst e0
            refine rest H8 (.ref p1) s68 ?_
            rw [ebd]
            have ez : ((K88.G m).filter fun p => decide (F m p = μ)).map pD = [] := by
              have h1 := tA8.length
              exact List.length_eq_zero_iff.mp h1.symm
            rw [ez]
            exact .tup (s68 _ _ ep1) (by show 1 ≤ 1000; decide) (.cons (.int _) .nil)
          · have s9 := same_new np2 (.tup ([.int (μ : Int)] ++ acc))
            refine rest _ (.ref p2) (s68.trans s9) ?_
            rw [ebd]
            refine .tup upd_same ?_ (.cons (.int _) (TdAll.keep (TS.of s9) _ _ tA8))
            rw [List.length_cons]
            omega
end
end K88
namespace K88
open PySem L2
theorem all_mk {l : PySem.W.OpenLaw} {w : World} {K : PySem.W.Frag} {h : Heap} {mg : Str → Option Value} {fa f1 f2 f3 f4 f5 f6 f7 f8 f9 f10 : Addr} {t1 t2 : Tok} (X : K.In h) (G : h.Ns mainGlobals mg) (hfa : mg "law" = some (.ref fa))
    {od1 an1 od2 an2 od3 an3 od4 an4 od5 an5 od6 an6 od7 an7 od8 an8 od9 an9 od10 an10 : Option Addr} {sl1 sl2 sl3 sl4 sl5 sl6 sl7 sl8 sl9 sl10 : Array (Option Value)} {oc1 kV1 dc1 pm1 cd1 ct1 oc2 kV2 dc2 pm2 cd2 ct2 oc3 kV3 dc3 pm3 cd3 ct3 oc4 kV4 dc4 pm4 cd4 ct4 oc5 kV5 dc5 pm5 cd5 ct5 oc6 kV6 dc6 pm6 cd6 ct6 oc7 kV7 dc7 pm7 cd7 ct7 oc8 kV8 dc8 pm8 cd8 ct8 oc9 kV9 dc9 pm9 cd9 ct9 oc10 kV10 dc10 pm10 cd10 ct10 : Value}
    (a1 : PySem.W.nsIn K mainGlobals "is_int" = some (some (.ref f1))) (l1 : K.lookup f1 = some ⟨oc1, od1, .func (PySem.W.fnOf "is_int" "is_int" (defArgs sIsInt) (defBody sIsInt) (defScope sIsInt) .none kV1 dc1 pm1 an1 cd1 ct1), sl1⟩) (c1 : PySem.W.codeIn K cd1 "is_int" = true) (k1 : PySem.W.keepIn K (.ref f1) = true)
    (a2 : PySem.W.nsIn K mainGlobals "is_in" = some (some (.ref f2))) (l2 : K.lookup f2 = some ⟨oc2, od2, .func (PySem.W.fnOf "is_in" "is_in" (defArgs sIsIn) (defBody sIsIn) (defScope sIsIn) .none kV2 dc2 pm2 an2 cd2 ct2), sl2⟩) (c2 : PySem.W.codeIn K cd2 "is_in" = true) (k2 : PySem.W.keepIn K (.ref f2) = true)
    (a3 : PySem.W.nsIn K mainGlobals "common" = some (some (.ref f3))) (l3 : K.lookup f3 = some ⟨oc3, od3, .func (PySem.W.fnOf "common" "common" (defArgs sCommon) (defBody sCommon) (defScope sCommon) .none kV3 dc3 pm3 an3 cd3 ct3), sl3⟩) (c3 : PySem.W.codeIn K cd3 "common" = true) (k3 : PySem.W.keepIn K (.ref f3) = true)
    (a4 : PySem.W.nsIn K mainGlobals "need_layout" = some (some (.ref f4))) (l4 : K.lookup f4 = some ⟨oc4, od4, .func (PySem.W.fnOf "need_layout" "need_layout" (defArgs sNeed) (defBody sNeed) (defScope sNeed) .none kV4 dc4 pm4 an4 cd4 ct4), sl4⟩) (c4 : PySem.W.codeIn K cd4 "need_layout" = true) (k4 : PySem.W.keepIn K (.ref f4) = true)
    (a5 : PySem.W.nsIn K mainGlobals "has_all" = some (some (.ref f5))) (l5 : K.lookup f5 = some ⟨oc5, od5, .func (PySem.W.fnOf "has_all" "has_all" (defArgs sHas) (defBody sHas) (defScope sHas) .none kV5 dc5 pm5 an5 cd5 ct5), sl5⟩) (c5 : PySem.W.codeIn K cd5 "has_all" = true) (k5 : PySem.W.keepIn K (.ref f5) = true)
    (a6 : PySem.W.nsIn K mainGlobals "distances" = some (some (.ref f6))) (l6 : K.lookup f6 = some ⟨oc6, od6, .func (PySem.W.fnOf "distances" "distances" (defArgs sDist) (defBody sDist) (defScope sDist) .none kV6 dc6 pm6 an6 cd6 ct6), sl6⟩) (c6 : PySem.W.codeIn K cd6 "distances" = true) (k6 : PySem.W.keepIn K (.ref f6) = true)
    (a7 : PySem.W.nsIn K mainGlobals "best_layouts" = some (some (.ref f7))) (l7 : K.lookup f7 = some ⟨oc7, od7, .func (PySem.W.fnOf "best_layouts" "best_layouts" (defArgs sBest) (defBody sBest) (defScope sBest) .none kV7 dc7 pm7 an7 cd7 ct7), sl7⟩) (c7 : PySem.W.codeIn K cd7 "best_layouts" = true) (k7 : PySem.W.keepIn K (.ref f7) = true)
    (a8 : PySem.W.nsIn K mainGlobals "_law_taken" = some (some (.ref f8))) (l8 : K.lookup f8 = some ⟨oc8, od8, .func (PySem.W.fnOf "_law_taken" "_law_taken" (defArgs sTaken) (defBody sTaken) (defScope sTaken) .none kV8 dc8 pm8 an8 cd8 ct8), sl8⟩) (c8 : PySem.W.codeIn K cd8 "_law_taken" = true) (k8 : PySem.W.keepIn K (.ref f8) = true)
    (a9 : PySem.W.nsIn K mainGlobals "_law_alike" = some (some (.ref f9))) (l9 : K.lookup f9 = some ⟨oc9, od9, .func (PySem.W.fnOf "_law_alike" "_law_alike" (defArgs sAlike) (defBody sAlike) (defScope sAlike) .none kV9 dc9 pm9 an9 cd9 ct9), sl9⟩) (c9 : PySem.W.codeIn K cd9 "_law_alike" = true) (k9 : PySem.W.keepIn K (.ref f9) = true)
    (a10 : PySem.W.nsIn K mainGlobals "law" = some (some (.ref f10))) (l10 : K.lookup f10 = some ⟨oc10, od10, .func (PySem.W.fnOf "law" "law" (defArgs sLaw) (defBody sLaw) (defScope sLaw) .none kV10 dc10 pm10 an10 cd10 ct10), sl10⟩) (c10 : PySem.W.codeIn K cd10 "law" = true) (k10 : PySem.W.keepIn K (.ref f10) = true)
    (m1 : PySem.W.nsIn K mainGlobals "MOST_STEPS" = some (some (.int 200 t1))) (m2 : PySem.W.nsIn K mainGlobals "MOST_AREA" = some (some (.int 60 t2)))
    (z1 : PySem.W.nsIn K mainGlobals "isinstance" = some none)
    (z2 : PySem.W.nsIn K mainGlobals "int" = some none)
    (z3 : PySem.W.nsIn K mainGlobals "bool" = some none)
    (z4 : PySem.W.nsIn K mainGlobals "abs" = some none)
    (z5 : PySem.W.nsIn K mainGlobals "tuple" = some none)
    (z6 : PySem.W.nsIn K mainGlobals "range" = some none)
    (z7 : PySem.W.nsIn K mainGlobals "max" = some none)
    (z8 : PySem.W.nsIn K mainGlobals "min" = some none)
    (z9 : PySem.W.nsIn K mainGlobals "len" = some none)
    (z10 : PySem.W.nsIn K mainGlobals "list" = some none)
    (z11 : PySem.W.nsIn K mainGlobals "str" = some none) :
    ∃ fd : FuncData, (∀ (s : Shared) (v : Value), BindsTo s fd ⟨[v], []⟩ [("_law_script", v)]) ∧ ∀ base : Heap, K.In base → base.Ns mainGlobals mg → FnOk l.prog w K mg base CX0 6 fa fd ["_law_script"] (spLaw K) := by
  have e := hfa.symm.trans (PySem.W.mg_of X G a10)
  cases e
  have F1 := fun_mk (st := sIsInt) l1 c1 k1
  have F2 := fun_mk (st := sIsIn) l2 c2 k2
  have F3 := fun_mk (st := sCommon) l3 c3 k3
  have F4 := fun_mk (st := sNeed) l4 c4 k4
  have F5 := fun_mk (st := sHas) l5 c5 k5
  have F6 := fun_mk (st := sDist) l6 c6 k6
  have F7 := fun_mk (st := sBest) l7 c7 k7
  have F8 := fun_mk (st := sTaken) l8 c8 k8
  have F9 := fun_mk (st := sAlike) l9 c9 k9
  have F10 := fun_mk (st := sLaw) l10 c10 k10
  have b1 := F1.binds (ps := ["value"]) fun _ _ _ _ _ _ us hl => match us, hl with | [_], _ => rfl
  have b2 := F2.binds (ps := ["value", "least", "most"]) fun _ _ _ _ _ _ us hl => match us, hl with | [_, _, _], _ => rfl
  have b3 := F3.binds (ps := ["one", "other"]) fun _ _ _ _ _ _ us hl => match us, hl with | [_, _], _ => rfl
  have b4 := F4.binds (ps := ["many", "right", "up"]) fun _ _ _ _ _ _ us hl => match us, hl with | [_, _, _], _ => rfl
  have b5 := F5.binds (ps := ["many", "right", "up"]) fun _ _ _ _ _ _ us hl => match us, hl with | [_, _, _], _ => rfl
  have b6 := F6.binds (ps := ["many", "right", "up"]) fun _ _ _ _ _ _ us hl => match us, hl with | [_, _, _], _ => rfl
  have b7 := F7.binds (ps := ["many"]) fun _ _ _ _ _ _ us hl => match us, hl with | [_], _ => rfl
  have b8 := F8.binds (ps := ["_law_row", "_law_many"]) fun _ _ _ _ _ _ us hl => match us, hl with | [_, _], _ => rfl
  have b9 := F9.binds (ps := ["_law_found", "_law_due"]) fun _ _ _ _ _ _ us hl => match us, hl with | [_, _], _ => rfl
  have g1 := PySem.W.mg_of X G a1
  have g2 := PySem.W.mg_of X G a2
  have g3 := PySem.W.mg_of X G a3
  have g4 := PySem.W.mg_of X G a4
  have g5 := PySem.W.mg_of X G a5
  have g6 := PySem.W.mg_of X G a6
  have g7 := PySem.W.mg_of X G a7
  have g8 := PySem.W.mg_of X G a8
  have g9 := PySem.W.mg_of X G a9
  have gS := PySem.W.mg_of X G m1
  have gA := PySem.W.mg_of X G m2
  have n_isinstance := PySem.W.mg_none_of X G z1
  have n_int := PySem.W.mg_none_of X G z2
  have n_bool := PySem.W.mg_none_of X G z3
  have n_abs := PySem.W.mg_none_of X G z4
  have n_tuple := PySem.W.mg_none_of X G z5
  have n_range := PySem.W.mg_none_of X G z6
  have n_max := PySem.W.mg_none_of X G z7
  have n_min := PySem.W.mg_none_of X G z8
  have n_len := PySem.W.mg_none_of X G z9
  have n_list := PySem.W.mg_none_of X G z10
  have n_str := PySem.W.mg_none_of X G z11
  refine ⟨PySem.W.fnOf "law" "law" (defArgs sLaw) (defBody sLaw) (defScope sLaw) .none kV10 dc10 pm10 an10 cd10 ct10, fun s v => .of_eq rfl, fun base _ _ => ?_⟩
  have G1 := ok_is_int (P := l.prog) (w := w) (base := base) F1 n_isinstance n_int n_bool
  have G2 := ok_is_in (P := l.prog) (w := w) (base := base) F2 G1 b1 k1 g1
  have G3 := ok_common (P := l.prog) (w := w) (base := base) F3 n_abs
  have G4 := ok_need (P := l.prog) (w := w) (base := base) F4 G2 b2 k2 g2 gS
  have G5 := ok_has (P := l.prog) (w := w) (base := base) F5 G4 b4 k4 g4 G3 b3 k3 g3
  have G6 := ok_dist (P := l.prog) (w := w) (base := base) F6 G4 b4 k4 g4 n_tuple n_range
  have G7 := ok_best (P := l.prog) (w := w) (base := base) F7 G2 b2 k2 g2 G3 b3 k3 g3 G6 b6 k6 g6 gA n_range n_max
  have G8 := ok_taken (P := l.prog) (w := w) (base := base) F8 n_int n_len
  have G9 := alike_all (P := l.prog) (w := w) (base := base) F9 b9 g9 n_isinstance n_tuple n_list n_len n_range n_str n_int n_bool 3
  exact ok_law F10 G8 b8 k8 g8 G5 b5 k5 g5 G6 b6 k6 g6 G7 b7 k7 g7 G9 b9 k9 g9 n_range n_max n_min n_tuple
theorem walk {l : PySem.W.OpenLaw} {q : Program} {loose : List Str} {XP : (Str → Option Value) → Heap → Prop} {YP : World → Heap → Prop} {d : DefRec} {K : Params → PySem.W.Frag} (hn : l.most = some 63) (hdf : d.params.defaults = [])
    (hY : ∀ (w : World) (h : Heap), YP w h → (K w.params).In h)
    (F : ∀ (w : World) (mg : Str → Option Value) (fa : Addr) (h : Heap), (K w.params).In h → h.Ns mainGlobals mg → mg d.name = some (.ref fa) →
      ∃ fd : FuncData, (∀ (s : Shared) (u : Value), BindsTo s fd ⟨[u], []⟩ [("_law_script", u)]) ∧ ∀ base : Heap, (K w.params).In base → base.Ns mainGlobals mg → FnOk l.prog w (K w.params) mg base CX0 6 fa fd ["_law_script"] (spLaw (K w.params))) :
    PySem.W.WalkO q loose XP YP l.row.toRowW d [] (fun f vs => PySem.call f vs) :=
  L2.walk_of (n := 63) (k := 6) (x := "_law_script") (CX := fun _ => CX0) (sp := fun w => spLaw (K w.params)) hn (by decide) hdf ⟨rfl, by decide, by decide⟩ hY F (fun _ _ a ns hl _ hS => ⟨a, ns, rfl, hS, hl, fun _ => rfl⟩) fun _ _ _ _ _ z => z
end K88
open PySem PySem.W PyProof.Rows
set_option maxRecDepth 100000 in
set_option maxHeartbeats 0 in
theorem PySem.Challenge.cw_temperworks_k88_whole_best_boards_holds : PySem.Challenge.rw_temperworks_k88_whole_best_boards.Holds := by
  w_on; o_law; k_head; (case hw => w_witness2)
  k_fill
  refine K88.walk (l := PySem.Challenge.rw_temperworks_k88_whole_best_boards) rfl rfl (fun w h Y => PySem.W.kIn_of Y) ?F
  case F =>
    intro w mg fa h KX G hmg
    refine' K88.all_mk KX G hmg ?a1 ?l1 ?c1 ?k1 ?a2 ?l2 ?c2 ?k2 ?a3 ?l3 ?c3 ?k3 ?a4 ?l4 ?c4 ?k4 ?a5 ?l5 ?c5 ?k5 ?a6 ?l6 ?c6 ?k6 ?a7 ?l7 ?c7 ?k7 ?a8 ?l8 ?c8 ?k8 ?a9 ?l9 ?c9 ?k9 ?a10 ?l10 ?c10 ?k10 ?m1 ?m2 ?z1 ?z2 ?z3 ?z4 ?z5 ?z6 ?z7 ?z8 ?z9 ?z10 ?z11
    (case a1 => k_is)
    (case l1 => k_is)
    (case c1 => k_is)
    (case k1 => k_is)
    (case a2 => k_is)
    (case l2 => k_is)
    (case c2 => k_is)
    (case k2 => k_is)
    (case a3 => k_is)
    (case l3 => k_is)
    (case c3 => k_is)
    (case k3 => k_is)
    (case a4 => k_is)
    (case l4 => k_is)
    (case c4 => k_is)
    (case k4 => k_is)
    (case a5 => k_is)
    (case l5 => k_is)
    (case c5 => k_is)
    (case k5 => k_is)
    (case a6 => k_is)
    (case l6 => k_is)
    (case c6 => k_is)
    (case k6 => k_is)
    (case a7 => k_is)
    (case l7 => k_is)
    (case c7 => k_is)
    (case k7 => k_is)
    (case a8 => k_is)
    (case l8 => k_is)
    (case c8 => k_is)
    (case k8 => k_is)
    (case a9 => k_is)
    (case l9 => k_is)
    (case c9 => k_is)
    (case k9 => k_is)
    (case a10 => k_is)
    (case l10 => k_is)
    (case c10 => k_is)
    (case k10 => k_is)
    (case m1 => k_is)
    (case m2 => k_is)
    (case z1 => k_is)
    (case z2 => k_is)
    (case z3 => k_is)
    (case z4 => k_is)
    (case z5 => k_is)
    (case z6 => k_is)
    (case z7 => k_is)
    (case z8 => k_is)
    (case z9 => k_is)
    (case z10 => k_is)
    (case z11 => k_is)
#print axioms PySem.Challenge.cw_temperworks_k88_whole_best_boards_holds
