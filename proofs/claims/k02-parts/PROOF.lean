import PyProof.Rows.All
import Wide.All
import OpenK.AllK
import Wide.FinOn
import HandS.ForMost
import HandS.Evl
import HandS.SortKw
import HandS.Wide
import HandS.IsInst
import HandS.Style
import HandS.More
import HandS.EndBits
import PySem.Challenge.RW_rimhooks_k02_whole_parts

set_option Elab.async false
set_option linter.all false
set_option maxRecDepth 100000
set_option maxHeartbeats 8000000

namespace Rh

theorem perm_sum {a b : List Int} (h : a.Perm b) : a.sum = b.sum := by
  induction h with
  | nil => rfl
  | cons x _ ih => simp [ih]
  | swap x y l => simp; omega
  | trans _ _ h1 h2 => exact h1.trans h2
theorem len_le_of_sub {a b : List Int} (h : a.Nodup) (hs : ∀ x, x ∈ a → x ∈ b) : a.length ≤ b.length := by
  induction a generalizing b with
  | nil => exact Nat.zero_le _
  | cons x r ih =>
    have hx : x ∈ b := hs x (List.mem_cons_self)
    obtain ⟨h1, h2⟩ := List.nodup_cons.mp h
    have e := List.length_erase_of_mem hx
    have : r.length ≤ (b.erase x).length := ih h2 fun y hy => by
      have : y ≠ x := fun e => h1 (e ▸ hy)
      exact (List.mem_erase_of_ne this).mpr (hs y (List.mem_cons_of_mem _ hy))
    have p : 0 < b.length := List.length_pos_of_mem hx
    simp only [List.length_cons]
    omega
theorem perm_of_mem {a b : List Int} (ha : a.Nodup) (hb : b.Nodup) (h : ∀ x, x ∈ a ↔ x ∈ b) : a.Perm b :=
  (List.perm_ext_iff_of_nodup ha hb).mpr h

/-- the ints below n, from 0 on -/
def upto (n : Nat) : List Int := (List.range n).map fun (k : Nat) => (k : Int)
theorem upto_len (n : Nat) : (upto n).length = n := by simp [upto]
theorem mem_upto {n : Nat} {x : Int} : x ∈ upto n ↔ 0 ≤ x ∧ x < n := by
  unfold upto
  rw [List.mem_map]
  constructor
  · rintro ⟨k, hk, rfl⟩
    have := List.mem_range.mp hk
    omega
  · rintro ⟨h0, h1⟩
    exact ⟨x.toNat, List.mem_range.mpr (by omega), by omega⟩
theorem upto_succ (n : Nat) : upto (n + 1) = upto n ++ [(n : Int)] := by
  simp [upto, List.range_succ]

/-- a list of different ints from 0 on, with each its forerunner: the ints below its length -/
theorem closed_mem {Q : List Int} (hn : Q.Nodup) (h0 : ∀ x ∈ Q, 0 ≤ x) (hc : ∀ x ∈ Q, 1 ≤ x → x - 1 ∈ Q) (x : Int) : x ∈ Q ↔ 0 ≤ x ∧ x < Q.length := by
  have down : ∀ (k : Nat) (x : Int), x ∈ Q → (k : Int) ≤ x → x - k ∈ Q := by
    intro k
    induction k with
    | zero => intro x h _; simpa using h
    | succ k ih =>
      intro x h hk
      have h1 := ih x h (by omega)
      have h2 := hc _ h1 (by omega)
      have e : x - (k : Int) - 1 = x - ((k + 1 : Nat) : Int) := by omega
      rw [← e]
      exact h2
  constructor
  · intro h
    have hx := h0 x h
    refine ⟨hx, ?_⟩
    have hs : ∀ y, y ∈ upto (x.toNat + 1) → y ∈ Q := fun y hy => by
      obtain ⟨a, b⟩ := mem_upto.mp hy
      have := down (x - y).toNat x h (by omega)
      have e : x - ((x - y).toNat : Int) = y := by omega
      rwa [e] at this
    have nd : (upto (x.toNat + 1)).Nodup := by
      unfold upto
      rw [List.nodup_iff_pairwise_ne, List.pairwise_map]
      exact List.Pairwise.imp (fun h e => h (by omega)) (List.nodup_iff_pairwise_ne.mp List.nodup_range)
    have := len_le_of_sub nd hs
    rw [upto_len] at this
    omega
  · rintro ⟨hx, hl⟩
    refine Classical.byContradiction fun h => ?_
    have hs : ∀ y, y ∈ Q → y ∈ upto x.toNat := fun y hy => by
      have hy0 := h0 y hy
      refine mem_upto.mpr ⟨hy0, ?_⟩
      refine Classical.byContradiction fun hlt => h ?_
      have := down (y - x).toNat y hy (by omega)
      have e : y - ((y - x).toNat : Int) = x := by omega
      rwa [e] at this
    have := len_le_of_sub hn hs
    rw [upto_len] at this
    omega

def marksOf : List Int → List Int
  | [] => []
  | x :: r => (x + (r.length : Int)) :: marksOf r
def rowsOf : List Int → List Int
  | [] => []
  | x :: r => (x - (r.length : Int)) :: rowsOf r
theorem marksOf_len : ∀ h : List Int, (marksOf h).length = h.length
  | [] => rfl
  | _ :: r => congrArg (· + 1) (marksOf_len r)
theorem rowsOf_len : ∀ h : List Int, (rowsOf h).length = h.length
  | [] => rfl
  | _ :: r => congrArg (· + 1) (rowsOf_len r)
theorem rows_marks : ∀ h : List Int, rowsOf (marksOf h) = h
  | [] => rfl
  | x :: r => by
    show (x + (r.length : Int) - ((marksOf r).length : Int)) :: rowsOf (marksOf r) = x :: r
    rw [rows_marks r, marksOf_len]
    congr 1
    omega
theorem marks_rows : ∀ h : List Int, marksOf (rowsOf h) = h
  | [] => rfl
  | x :: r => by
    show (x - (r.length : Int) + ((rowsOf r).length : Int)) :: marksOf (rowsOf r) = x :: r
    rw [marks_rows r, rowsOf_len]
    congr 1
    omega
/-- 0 + 1 + .. + (n - 1) -/
def tri : Nat → Int
  | 0 => 0
  | n + 1 => tri n + (n : Int)
theorem rowsOf_sum : ∀ S : List Int, (rowsOf S).sum = S.sum - tri S.length
  | [] => rfl
  | x :: r => by
    show ((x - (r.length : Int)) :: rowsOf r).sum = (x :: r).sum - (tri r.length + (r.length : Int))
    rw [List.sum_cons, List.sum_cons, rowsOf_sum r]
    omega
theorem marksOf_sum (h : List Int) : (marksOf h).sum = h.sum + tri h.length := by
  have e := rowsOf_sum (marksOf h)
  rw [rows_marks, marksOf_len] at e
  omega

/-- sorted, falling -/
def sortD (M : List Int) : List Int := M.mergeSort (fun a b => decide (b ≤ a))
theorem sortD_perm (M : List Int) : (sortD M).Perm M := List.mergeSort_perm M _
theorem sortD_falls (M : List Int) : (sortD M).Pairwise (· ≥ ·) := by
  have h := List.pairwise_mergeSort (le := fun a b : Int => decide (b ≤ a)) (by intro a b c; simp; omega) (by intro a b; simp; omega) M
  exact List.Pairwise.imp (fun h => by simpa using h) h
theorem falls_eq : ∀ {a b : List Int}, a.Perm b → a.Pairwise (· ≥ ·) → b.Pairwise (· ≥ ·) → a = b
  | [], b, p, _, _ => (List.nil_perm.mp p).symm
  | x :: r, [], p, _, _ => absurd p.length_eq (by simp)
  | x :: r, y :: s, p, ha, hb => by
    obtain ⟨a1, a2⟩ := List.pairwise_cons.mp ha
    obtain ⟨b1, b2⟩ := List.pairwise_cons.mp hb
    have hxy : x ≤ y := by
      rcases List.mem_cons.mp (p.mem_iff.mp (List.mem_cons_self)) with e | e
      · omega
      · exact b1 x e
    have hyx : y ≤ x := by
      rcases List.mem_cons.mp (p.mem_iff.mpr (List.mem_cons_self)) with e | e
      · omega
      · exact a1 y e
    have e : x = y := by omega
    subst e
    rw [falls_eq ((List.perm_cons x).mp p) a2 b2]
theorem sortD_eq {M S : List Int} (p : S.Perm M) (h : S.Pairwise (· ≥ ·)) : S = sortD M := falls_eq (p.trans (sortD_perm M).symm) h (sortD_falls M)
theorem sortD_congr {M N : List Int} (p : M.Perm N) : sortD M = sortD N := sortD_eq ((sortD_perm M).trans p) (sortD_falls M)

def heapOf (M : List Int) : List Int := (rowsOf (sortD M)).filter fun x => decide (0 < x)
theorem heapOf_congr {M N : List Int} (p : M.Perm N) : heapOf M = heapOf N := by
  unfold heapOf
  rw [sortD_congr p]
structure IsHeap (h : List Int) : Prop where
  pos : ∀ x ∈ h, 0 < x
  falls : h.Pairwise (· ≥ ·)
/-- marks: different, from 0 on -/
structure Beads (M : List Int) : Prop where
  nd : M.Nodup
  nn : ∀ x ∈ M, 0 ≤ x
theorem Beads.perm {M N : List Int} (b : Beads M) (p : M.Perm N) : Beads N := ⟨p.nodup_iff.mp b.nd, fun x hx => b.nn x (p.mem_iff.mpr hx)⟩

def zeros (d : Nat) : List Int := List.replicate d 0
def pad (h : List Int) (d : Nat) : List Int := marksOf (h ++ zeros d)
theorem pad_zero (h : List Int) : pad h 0 = marksOf h := by simp [pad, zeros]
theorem pad_len (h : List Int) (d : Nat) : (pad h d).length = h.length + d := by simp [pad, zeros, marksOf_len]
/-- one row of none more -/
def sh (M : List Int) : List Int := M.map (· + 1) ++ [0]
theorem marks_snoc : ∀ h : List Int, marksOf (h ++ [0]) = sh (marksOf h)
  | [] => rfl
  | x :: r => by
    show (x + ((r ++ [0]).length : Int)) :: marksOf (r ++ [0]) = _
    rw [marks_snoc r]
    show _ = (x + (r.length : Int) + 1) :: ((marksOf r).map (· + 1) ++ [0])
    rw [List.length_append]
    congr 1
    show x + ((r.length + 1 : Nat) : Int) = _
    omega
theorem pad_succ (h : List Int) (d : Nat) : pad h (d + 1) = sh (pad h d) := by
  unfold pad zeros
  rw [show List.replicate (d + 1) (0 : Int) = List.replicate d 0 ++ [0] from List.replicate_succ', ← List.append_assoc, marks_snoc]
theorem mem_sh {M : List Int} {x : Int} : x ∈ sh M ↔ x = 0 ∨ x - 1 ∈ M := by
  unfold sh
  rw [List.mem_append, List.mem_map]
  constructor
  · rintro (⟨y, hy, rfl⟩ | h)
    · exact .inr (by simpa using hy)
    · exact .inl (by simpa using h)
  · rintro (h | h)
    · exact .inr (by simp [h])
    · exact .inl ⟨x - 1, h, by omega⟩
theorem Beads.sh {M : List Int} (b : Beads M) : Beads (sh M) := by
  refine ⟨?_, fun x hx => ?_⟩
  · unfold Rh.sh
    rw [List.nodup_append]
    refine ⟨?_, by simp, ?_⟩
    · rw [List.nodup_iff_pairwise_ne, List.pairwise_map]
      exact List.Pairwise.imp (fun h e => h (by omega)) (List.nodup_iff_pairwise_ne.mp b.nd)
    · intro x hx y hy e
      obtain ⟨z, hz, rfl⟩ := List.mem_map.mp hx
      have := b.nn z hz
      simp only [List.mem_singleton] at hy
      omega
  · rcases mem_sh.mp hx with e | e
    · omega
    · have := b.nn _ e
      omega
theorem heap_marks {h : List Int} (H : IsHeap h) : ∀ x ∈ marksOf h, (0 : Int) < x := by
  have : ∀ h : List Int, (∀ x ∈ h, 0 < x) → ∀ x ∈ marksOf h, (0 : Int) < x := by
    intro h
    induction h with
    | nil => intro _ x hx; cases hx
    | cons y r ih =>
      intro hp x hx
      rcases List.mem_cons.mp hx with e | e
      · have := hp y List.mem_cons_self
        omega
      · exact ih (fun z hz => hp z (List.mem_cons_of_mem _ hz)) x e
  exact this h H.pos
theorem marks_lt : ∀ {h : List Int}, h.Pairwise (· ≥ ·) → (marksOf h).Pairwise (· > ·)
  | [], _ => List.Pairwise.nil
  | x :: r, hp => by
    obtain ⟨a, b⟩ := List.pairwise_cons.mp hp
    refine List.pairwise_cons.mpr ⟨fun m hm => ?_, marks_lt b⟩
    have : ∀ (s : List Int), (∀ y ∈ s, y ≤ x) → ∀ m ∈ marksOf s, m < x + (s.length : Int) := by
      intro s
      induction s with
      | nil => intro _ m hm; cases hm
      | cons y t ih =>
        intro hs m hm
        have hy := hs y List.mem_cons_self
        rcases List.mem_cons.mp hm with e | e
        · rw [List.length_cons]; omega
        · have := ih (fun z hz => hs z (List.mem_cons_of_mem _ hz)) m e
          rw [List.length_cons]; omega
    exact this r a m hm
theorem marks_falls {h : List Int} (hp : h.Pairwise (· ≥ ·)) : (marksOf h).Pairwise (· ≥ ·) := List.Pairwise.imp (fun h => by omega) (marks_lt hp)
theorem marks_beads {h : List Int} (H : IsHeap h) : Beads (marksOf h) :=
  ⟨List.nodup_iff_pairwise_ne.mpr (List.Pairwise.imp (fun h => by omega) (marks_lt H.falls)), fun x hx => by have := heap_marks H x hx; omega⟩
theorem pad_beads {h : List Int} (H : IsHeap h) : ∀ d, Beads (pad h d)
  | 0 => by rw [pad_zero]; exact marks_beads H
  | d + 1 => by rw [pad_succ]; exact (pad_beads H d).sh

/-- the heap of a heap's marks, rows of none let in -/
theorem pad_falls {h : List Int} (H : IsHeap h) (d : Nat) : (h ++ zeros d).Pairwise (· ≥ ·) := by
  rw [List.pairwise_append]
  refine ⟨H.falls, ?_, fun a ha b hb => ?_⟩
  · unfold zeros
    exact List.pairwise_replicate.mpr (.inr (by omega))
  · have := H.pos a ha
    have e := List.eq_of_mem_replicate hb
    omega
theorem heapOf_pad {h : List Int} (H : IsHeap h) (d : Nat) : heapOf (pad h d) = h := by
  unfold heapOf pad
  rw [← sortD_eq (List.Perm.refl _) (marks_falls (pad_falls H d)), rows_marks, List.filter_append]
  have e1 : h.filter (fun x => decide (0 < x)) = h := List.filter_eq_self.mpr fun x hx => by simpa using H.pos x hx
  have e2 : (zeros d).filter (fun x => decide (0 < x)) = [] := List.filter_eq_nil_iff.mpr fun x hx => by
    have e := List.eq_of_mem_replicate hx
    simp [e]
  rw [e1, e2, List.append_nil]
theorem heapOf_marks {h : List Int} (H : IsHeap h) : heapOf (marksOf h) = h := by
  rw [← pad_zero]
  exact heapOf_pad H 0

/-- falling rows from 0 on: a heap and rows of none -/
theorem split_rows : ∀ {R : List Int}, R.Pairwise (· ≥ ·) → (∀ x ∈ R, 0 ≤ x) → R = R.filter (fun x => decide (0 < x)) ++ zeros (R.length - (R.filter fun x => decide (0 < x)).length)
  | [], _, _ => rfl
  | x :: r, hp, h0 => by
    obtain ⟨a, b⟩ := List.pairwise_cons.mp hp
    by_cases hx : 0 < x
    · have ih := split_rows b fun y hy => h0 y (List.mem_cons_of_mem _ hy)
      rw [List.filter_cons, if_pos (by simpa using hx), List.length_cons, List.length_cons, Nat.add_sub_add_right, List.cons_append, ← ih]
    · have e0 : ∀ y ∈ x :: r, y = 0 := fun y hy => by
        have h1 := h0 y hy
        rcases List.mem_cons.mp hy with e | e
        · omega
        · have := a y e
          omega
      have ef : (x :: r).filter (fun x => decide (0 < x)) = [] := List.filter_eq_nil_iff.mpr fun y hy => by simp [e0 y hy]
      rw [ef, List.nil_append, List.length_nil, Nat.sub_zero]
      exact List.eq_replicate_iff.mpr ⟨rfl, e0⟩
theorem rows_ok : ∀ {S : List Int}, S.Pairwise (· > ·) → (∀ x ∈ S, 0 ≤ x) → (rowsOf S).Pairwise (· ≥ ·) ∧ (∀ x ∈ rowsOf S, 0 ≤ x) ∧ ∀ x, S.head? = some x → (S.length : Int) ≤ x + 1
  | [], _, _ => ⟨List.Pairwise.nil, fun _ h => by (cases h), fun _ h => by (cases h)⟩
  | x :: r, hp, h0 => by
    obtain ⟨a, b⟩ := List.pairwise_cons.mp hp
    obtain ⟨i1, i2, i3⟩ := rows_ok b fun y hy => h0 y (List.mem_cons_of_mem _ hy)
    have hx := h0 x List.mem_cons_self
    have hl : (r.length : Int) ≤ x := by
      cases r with
      | nil => simpa using hx
      | cons y s =>
        have := i3 y rfl
        have := a y List.mem_cons_self
        omega
    refine ⟨List.pairwise_cons.mpr ⟨fun z hz => ?_, i1⟩, fun z hz => ?_, fun z hz => ?_⟩
    · cases r with
      | nil => cases hz
      | cons y s =>
        have h1 := a y List.mem_cons_self
        have e : (rowsOf (y :: s)) = (y - (s.length : Int)) :: rowsOf s := rfl
        rw [e] at hz i1
        have hz' : z ≤ y - (s.length : Int) := by
          rcases List.mem_cons.mp hz with q | q
          · omega
          · exact (List.pairwise_cons.mp i1).1 z q
        rw [List.length_cons]
        omega
    · rcases List.mem_cons.mp hz with q | q
      · omega
      · exact i2 z q
    · have e : x = z := Option.some.inj hz
      rw [List.length_cons]
      omega
/-- marks of any kind: the heap of them, with rows of none, has them -/
theorem beads_pad {M : List Int} (B : Beads M) : IsHeap (heapOf M) ∧ (heapOf M).length ≤ M.length ∧ M.Perm (pad (heapOf M) (M.length - (heapOf M).length)) := by
  have p := sortD_perm M
  have hf : (sortD M).Pairwise (· > ·) := by
    have h1 := sortD_falls M
    have h2 := List.nodup_iff_pairwise_ne.mp (p.nodup_iff.mpr B.nd)
    exact List.Pairwise.imp₂ (fun a b h1 h2 => by omega) h1 h2
  obtain ⟨r1, r2, _⟩ := rows_ok hf fun x hx => B.nn x (p.mem_iff.mp hx)
  have hs := split_rows r1 r2
  have el : (rowsOf (sortD M)).length = M.length := by rw [rowsOf_len, p.length_eq]
  refine ⟨⟨fun x hx => by simpa using (List.mem_filter.mp hx).2, List.Pairwise.filter _ r1⟩, ?_, ?_⟩
  · have := List.length_filter_le (fun x => decide ((0 : Int) < x)) (rowsOf (sortD M))
    rw [el] at this
    exact this
  · unfold pad
    have e : heapOf M ++ zeros (M.length - (heapOf M).length) = rowsOf (sortD M) := by
      rw [← el]
      exact hs.symm
    rw [e, marks_rows]
    exact p.symm
theorem heapOf_sum {M : List Int} (B : Beads M) : (heapOf M).sum = M.sum - tri M.length := by
  obtain ⟨_, h2, h3⟩ := beads_pad B
  have e := perm_sum h3
  unfold pad at e
  rw [marksOf_sum, List.sum_append, List.length_append] at e
  have z : (zeros (M.length - (heapOf M).length)).sum = 0 := by
    unfold zeros
    simp
  have l : (zeros (M.length - (heapOf M).length)).length = M.length - (heapOf M).length := by simp [zeros]
  rw [z, l, Nat.add_sub_cancel' h2] at e
  omega
theorem heapOf_sh {M : List Int} (B : Beads M) : heapOf (sh M) = heapOf M := by
  obtain ⟨h1, h2, h3⟩ := beads_pad B
  have p : (sh M).Perm (pad (heapOf M) (M.length - (heapOf M).length + 1)) := by
    rw [pad_succ]
    unfold sh
    exact (h3.map _).append_right _
  rw [heapOf_congr p, heapOf_pad h1]
/-- as many marks, the same heap: the same marks -/
theorem heapOf_inj {M N : List Int} (A : Beads M) (B : Beads N) (hl : M.length = N.length) (h : heapOf M = heapOf N) : M.Perm N := by
  obtain ⟨_, _, p⟩ := beads_pad A
  obtain ⟨_, _, q⟩ := beads_pad B
  rw [h, hl] at p
  exact p.trans q.symm
end Rh

namespace Rh

theorem qr {L q r x : Int} (h0 : 0 ≤ r) (h1 : r < L) (e : x = L * q + r) : x / L = q ∧ x % L = r := by
  subst e
  have hL : L ≠ 0 := by omega
  constructor
  · rw [Int.add_comm, Int.add_mul_ediv_left _ _ hL, Int.ediv_eq_zero_of_lt h0 h1, Int.zero_add]
  · rw [Int.add_comm, Int.add_mul_emod_self_left, Int.emod_eq_of_lt h0 h1]
theorem qr_of (L x : Int) : x = L * (x / L) + x % L := (Int.mul_ediv_add_emod x L).symm
theorem rest_ok {L : Int} (hL : 0 < L) (x : Int) : 0 ≤ x % L ∧ x % L < L := ⟨Int.emod_nonneg x (by omega), Int.emod_lt_of_pos x hL⟩
theorem quo_nn {L x : Int} (hL : 0 < L) (h : 0 ≤ x) : 0 ≤ x / L := Int.ediv_nonneg h (by omega)
theorem add_len {L : Int} (hL : 0 < L) (x : Int) : (x + L) / L = x / L + 1 ∧ (x + L) % L = x % L := by
  obtain ⟨h0, h1⟩ := rest_ok hL x
  have e := qr_of L x
  refine qr h0 h1 ?_
  rw [Int.mul_add, Int.mul_one]
  omega
theorem sub_len {L : Int} (hL : 0 < L) (x : Int) : (x - L) / L = x / L - 1 ∧ (x - L) % L = x % L := by
  have h := add_len hL (x - L)
  rw [Int.sub_add_cancel] at h
  omega
theorem quo_zero {L x : Int} (hL : 0 < L) (h0 : 0 ≤ x) : x / L < 1 ↔ x < L := by
  constructor
  · intro h
    have hq := quo_nn hL h0
    have e := qr_of L x
    have hz : x / L = 0 := by omega
    rw [hz, Int.mul_zero] at e
    have := rest_ok hL x
    omega
  · intro h
    rw [Int.ediv_eq_zero_of_lt h0 h]
    omega

def cnt (M : List Int) (L r : Int) : Nat := M.countP fun m => decide (m % L = r)
theorem cnt_nil (L r : Int) : cnt [] L r = 0 := rfl
theorem cnt_cons (m : Int) (M : List Int) (L r : Int) : cnt (m :: M) L r = cnt M L r + if m % L = r then 1 else 0 := by
  unfold cnt
  rw [List.countP_cons]
  simp
theorem cnt_append (M N : List Int) (L r : Int) : cnt (M ++ N) L r = cnt M L r + cnt N L r := by
  unfold cnt
  rw [List.countP_append]
theorem cnt_perm {M N : List Int} (p : M.Perm N) (L r : Int) : cnt M L r = cnt N L r := p.countP_eq _
theorem cnt_le (M : List Int) (L r : Int) : cnt M L r ≤ M.length := List.countP_le_length

/-- a place that is taken when all marks of each rest lie as low as can be -/
def Low (M : List Int) (L x : Int) : Prop := 0 ≤ x ∧ x / L < cnt M L (x % L)
theorem Low.perm {M N : List Int} (p : M.Perm N) {L x : Int} : Low M L x ↔ Low N L x := by
  unfold Low
  rw [cnt_perm p]
structure IsCore (C M : List Int) (L : Int) : Prop where
  nd : C.Nodup
  mem : ∀ x, x ∈ C ↔ Low M L x
theorem IsCore.perm {C D M N : List Int} {L : Int} (c : IsCore C M L) (d : IsCore D N L) (p : M.Perm N) : C.Perm D :=
  perm_of_mem c.nd d.nd fun x => by rw [c.mem, d.mem, Low.perm p]
theorem IsCore.beads {C M : List Int} {L : Int} (c : IsCore C M L) : Beads C := ⟨c.nd, fun x hx => ((c.mem x).mp hx).1⟩
theorem IsCore.of_perm {C M N : List Int} {L : Int} (c : IsCore C M L) (p : M.Perm N) : IsCore C N L := ⟨c.nd, fun x => by rw [c.mem, Low.perm p]⟩

def lowsFrom (L : Int) : List Int → List Int → List Int
  | _, [] => []
  | pre, m :: r => (m % L + L * (cnt pre L (m % L) : Int)) :: lowsFrom L (pre ++ [m]) r
def lowsOf (M : List Int) (L : Int) : List Int := lowsFrom L [] M
def manyFrom (L : Int) : List Int → List Int → Int
  | _, [] => 0
  | pre, m :: r => (m / L - (cnt pre L (m % L) : Int)) + manyFrom L (pre ++ [m]) r
def manyOf (M : List Int) (L : Int) : Int := manyFrom L [] M
theorem lowsFrom_len (L : Int) : ∀ (r pre : List Int), (lowsFrom L pre r).length = r.length
  | [], _ => rfl
  | _ :: r, pre => congrArg (· + 1) (lowsFrom_len L r _)
theorem lowsOf_len (M : List Int) (L : Int) : (lowsOf M L).length = M.length := lowsFrom_len L M []
theorem lows_sum (L : Int) : ∀ (r pre : List Int), (lowsFrom L pre r).sum + L * manyFrom L pre r = r.sum
  | [], _ => by simp [lowsFrom, manyFrom]
  | m :: r, pre => by
    have ih := lows_sum L r (pre ++ [m])
    show ((m % L + L * (cnt pre L (m % L) : Int)) :: lowsFrom L (pre ++ [m]) r).sum + L * ((m / L - (cnt pre L (m % L) : Int)) + manyFrom L (pre ++ [m]) r) = (m :: r).sum
    rw [List.sum_cons, List.sum_cons, Int.mul_add, Int.mul_sub]
    have e := qr_of L m
    omega
theorem mem_lowsFrom {L : Int} (hL : 0 < L) : ∀ (r pre : List Int) (x : Int), x ∈ lowsFrom L pre r ↔ 0 ≤ x ∧ (cnt pre L (x % L) : Int) ≤ x / L ∧ x / L < (cnt (pre ++ r) L (x % L) : Nat)
  | [], pre, x => by
    rw [List.append_nil]
    constructor
    · intro h
      cases h
    · rintro ⟨_, h1, h2⟩
      omega
  | m :: r, pre, x => by
    have ih := mem_lowsFrom hL r (pre ++ [m]) x
    have hm := rest_ok hL m
    have ea : cnt (pre ++ [m]) L (x % L) = cnt pre L (x % L) + if m % L = x % L then 1 else 0 := by
      rw [cnt_append, cnt_cons, cnt_nil, Nat.zero_add]
    have eb : pre ++ [m] ++ r = pre ++ m :: r := by simp
    rw [eb] at ih
    show x ∈ (m % L + L * (cnt pre L (m % L) : Int)) :: lowsFrom L (pre ++ [m]) r ↔ _
    rw [List.mem_cons, ih, ea]
    have hc : cnt (pre ++ m :: r) L (x % L) = cnt pre L (x % L) + ((if m % L = x % L then 1 else 0) + cnt r L (x % L)) := by
      rw [cnt_append, cnt_cons]
      omega
    rw [hc]
    by_cases e : m % L = x % L
    · rw [if_pos e, e]
      constructor
      · rintro (h | ⟨h0, h1, h2⟩)
        · obtain ⟨q1, q2⟩ := qr (by omega) (by omega) (show x = L * (cnt pre L (x % L) : Int) + m % L by omega)
          refine ⟨?_, by omega, by omega⟩
          have := Int.mul_nonneg (Int.le_of_lt hL) (Int.natCast_nonneg (cnt pre L (x % L)))
          omega
        · exact ⟨h0, by omega, by omega⟩
      · rintro ⟨h0, h1, h2⟩
        by_cases hq : x / L = (cnt pre L (x % L) : Int)
        · left
          have e2 := qr_of L x
          rw [hq] at e2
          omega
        · right
          exact ⟨h0, by omega, by omega⟩
    · rw [if_neg e]
      constructor
      · rintro (h | ⟨h0, h1, h2⟩)
        · obtain ⟨q1, q2⟩ := qr hm.1 hm.2 (show x = L * (cnt pre L (m % L) : Int) + m % L by omega)
          exact absurd q2.symm e
        · exact ⟨h0, by omega, by omega⟩
      · rintro ⟨h0, h1, h2⟩
        right
        exact ⟨h0, by omega, by omega⟩
theorem lowsFrom_nd {L : Int} (hL : 0 < L) : ∀ (r pre : List Int), (lowsFrom L pre r).Nodup
  | [], _ => List.nodup_nil
  | m :: r, pre => by
    refine List.nodup_cons.mpr ⟨fun h => ?_, lowsFrom_nd hL r _⟩
    obtain ⟨h0, h1, h2⟩ := (mem_lowsFrom hL r (pre ++ [m]) _).mp h
    have hm := rest_ok hL m
    obtain ⟨q1, q2⟩ := qr hm.1 hm.2 (show m % L + L * (cnt pre L (m % L) : Int) = L * (cnt pre L (m % L) : Int) + m % L by omega)
    rw [q1, q2, cnt_append, cnt_cons, if_pos rfl] at h1
    omega
theorem lowsOf_core {L : Int} (hL : 0 < L) (M : List Int) : IsCore (lowsOf M L) M L := by
  refine ⟨lowsFrom_nd hL M [], fun x => ?_⟩
  unfold lowsOf Low
  rw [mem_lowsFrom hL, List.nil_append, cnt_nil]
  constructor
  · rintro ⟨a, _, c⟩
    exact ⟨a, c⟩
  · rintro ⟨a, c⟩
    exact ⟨a, quo_nn hL a, c⟩
theorem lowsOf_congr {L : Int} (hL : 0 < L) {M N : List Int} (p : M.Perm N) : (lowsOf M L).Perm (lowsOf N L) := (lowsOf_core hL M).perm (lowsOf_core hL N) p
theorem many_sum (M : List Int) (L : Int) : L * manyOf M L = M.sum - (lowsOf M L).sum := by
  have h := lows_sum L M []
  show L * manyFrom L [] M = M.sum - (lowsFrom L [] M).sum
  omega
theorem many_eq {L a b : Int} (hL : 0 < L) (h : L * a = L * b) : a = b := Int.eq_of_mul_eq_mul_left (by omega) h
theorem many_congr {L : Int} (hL : 0 < L) {M N : List Int} (p : M.Perm N) : manyOf M L = manyOf N L :=
  many_eq hL (by rw [many_sum, many_sum, perm_sum p, perm_sum (lowsOf_congr hL p)])

theorem cnt_sh (M : List Int) {L : Int} (hL : 0 < L) (y : Int) : cnt (sh M) L ((y + 1) % L) = cnt M L (y % L) + if (y + 1) % L = 0 then 1 else 0 := by
  have e : cnt (M.map (· + 1)) L ((y + 1) % L) = cnt M L (y % L) := by
    unfold cnt
    rw [List.countP_map]
    congr 1
    funext m
    have : (m + 1) % L = (y + 1) % L ↔ m % L = y % L := Int.emod_add_cancel_right 1
    simp only [Function.comp, this]
  unfold sh
  rw [cnt_append, e, cnt_cons, cnt_nil, Int.zero_emod, Nat.zero_add]
  congr 1
  by_cases h : (y + 1) % L = 0
  · rw [if_pos h, if_pos h.symm]
  · rw [if_neg h, if_neg fun q => h q.symm]
theorem succ_quo {L : Int} (hL : 0 < L) (y : Int) : (y + 1) / L = y / L + if (y + 1) % L = 0 then 1 else 0 := by
  obtain ⟨h0, h1⟩ := rest_ok hL y
  have e := qr_of L y
  by_cases h : y % L + 1 = L
  · obtain ⟨a, b⟩ := qr (L := L) (q := y / L + 1) (r := 0) (x := y + 1) (Int.le_refl 0) hL (by rw [Int.mul_add, Int.mul_one]; omega)
    rw [a, if_pos b]
  · obtain ⟨a, b⟩ := qr (L := L) (q := y / L) (r := y % L + 1) (x := y + 1) (by omega) (by omega) (by omega)
    rw [a, if_neg (by omega)]
    omega
theorem IsCore.sh {C M : List Int} {L : Int} (hL : 0 < L) (c : IsCore C M L) : IsCore (sh C) (sh M) L := by
  refine ⟨(Beads.sh c.beads).nd, fun x => ?_⟩
  rw [mem_sh, c.mem]
  unfold Low
  obtain ⟨y, rfl⟩ : ∃ y, x = y + 1 := ⟨x - 1, by omega⟩
  rw [cnt_sh M hL y, succ_quo hL y, Int.add_sub_cancel]
  constructor
  · rintro (h | ⟨h0, h1⟩)
    · have e : y + 1 = 0 := h
      have e2 : (y + 1) % L = 0 := by rw [e]; exact Int.zero_emod L
      have e3 := succ_quo hL y
      simp only [if_pos e2] at e3 ⊢
      rw [e, Int.zero_ediv] at e3
      exact ⟨by omega, by omega⟩
    · refine ⟨by omega, ?_⟩
      split <;> omega
  · rintro ⟨h0, h1⟩
    by_cases e : y + 1 = 0
    · exact .inl e
    · refine .inr ⟨by omega, ?_⟩
      split at h1 <;> omega
theorem core_pad {L : Int} (hL : 0 < L) {C h : List Int} (H : IsHeap h) : ∀ d, IsCore C (pad h d) L → heapOf C = heapOf (lowsOf (marksOf h) L) := by
  have key : ∀ d, ∃ C, IsCore C (pad h d) L ∧ heapOf C = heapOf (lowsOf (marksOf h) L) := by
    intro d
    induction d with
    | zero =>
      rw [pad_zero]
      exact ⟨_, lowsOf_core hL _, rfl⟩
    | succ d ih =>
      obtain ⟨D, hD, e⟩ := ih
      rw [pad_succ]
      exact ⟨sh D, hD.sh hL, by rw [heapOf_sh hD.beads, e]⟩
  intro d hC
  obtain ⟨D, hD, e⟩ := key d
  rw [heapOf_congr (hC.perm hD (List.Perm.refl _)), e]

def coreOf (h : List Int) (L : Int) : List Int := heapOf (lowsOf (marksOf h) L)
def rimsIn (h : List Int) (L : Int) : Int := manyOf (marksOf h) L
theorem coreOf_heap {L : Int} (hL : 0 < L) (h : List Int) : IsHeap (coreOf h L) := (beads_pad (lowsOf_core hL _).beads).1
theorem core_of_beads {L : Int} (hL : 0 < L) {M C : List Int} (B : Beads M) (c : IsCore C M L) : coreOf (heapOf M) L = heapOf C := by
  obtain ⟨h1, h2, h3⟩ := beads_pad B
  exact (core_pad hL h1 _ (c.of_perm h3)).symm
theorem rims_sum {L : Int} (hL : 0 < L) {h : List Int} (H : IsHeap h) : L * rimsIn h L = h.sum - (coreOf h L).sum := by
  unfold rimsIn coreOf
  rw [many_sum, heapOf_sum (lowsOf_core hL _).beads, lowsOf_len, marksOf_sum, marksOf_len]
  omega
theorem rims_of_beads {L : Int} (hL : 0 < L) {M : List Int} (B : Beads M) : rimsIn (heapOf M) L = manyOf M L := by
  refine many_eq hL ?_
  rw [rims_sum hL (beads_pad B).1, core_of_beads hL B (lowsOf_core hL M), many_sum, heapOf_sum B, heapOf_sum (lowsOf_core hL M).beads, lowsOf_len]
  omega

def Closed (M : List Int) (L : Int) : Prop := ∀ m ∈ M, L ≤ m → m - L ∈ M
theorem IsCore.closed {C M : List Int} {L : Int} (hL : 0 < L) (c : IsCore C M L) : Closed C L := fun m hm hl => by
  obtain ⟨h0, h1⟩ := (c.mem m).mp hm
  obtain ⟨a, b⟩ := sub_len hL m
  refine (c.mem _).mpr ⟨by omega, ?_⟩
  rw [a, b]
  omega
/-- the quotients of those with the rest r -/
def cl (M : List Int) (L r : Int) : List Int := (M.filter fun m => decide (m % L = r)).map (· / L)
theorem cl_len (M : List Int) (L r : Int) : (cl M L r).length = cnt M L r := by
  unfold cl cnt
  rw [List.length_map, List.countP_eq_length_filter]
theorem mem_cl {M : List Int} {L r : Int} (hr : 0 ≤ r ∧ r < L) {q : Int} : q ∈ cl M L r ↔ L * q + r ∈ M := by
  unfold cl
  rw [List.mem_map]
  constructor
  · rintro ⟨m, hm, rfl⟩
    obtain ⟨h1, h2⟩ := List.mem_filter.mp hm
    have e := qr_of L m
    rw [of_decide_eq_true h2] at e
    rw [← e]
    exact h1
  · intro h
    obtain ⟨a, b⟩ := qr hr.1 hr.2 (rfl : L * q + r = L * q + r)
    exact ⟨_, List.mem_filter.mpr ⟨h, decide_eq_true b⟩, a⟩
theorem cl_beads {M : List Int} (B : Beads M) {L : Int} (hL : 0 < L) (r : Int) : Beads (cl M L r) := by
  refine ⟨?_, fun x hx => ?_⟩
  · unfold cl
    rw [List.nodup_iff_pairwise_ne, List.pairwise_map]
    have h1 : (M.filter fun m => decide (m % L = r)).Pairwise (· ≠ ·) := List.Pairwise.filter _ (List.nodup_iff_pairwise_ne.mp B.nd)
    have h2 : (M.filter fun m => decide (m % L = r)).Pairwise fun a b => a % L = r ∧ b % L = r := by
      refine List.pairwise_of_forall_mem_list fun a ha b hb => ?_
      exact ⟨of_decide_eq_true (List.mem_filter.mp ha).2, of_decide_eq_true (List.mem_filter.mp hb).2⟩
    refine List.Pairwise.imp₂ (fun a b h h' e => h ?_) h1 h2
    have ea := qr_of L a
    have eb := qr_of L b
    rw [ea, eb, e, h'.1, h'.2]
  · obtain ⟨m, hm, rfl⟩ := List.mem_map.mp hx
    exact quo_nn hL (B.nn m (List.mem_filter.mp hm).1)
theorem Closed.core {M : List Int} {L : Int} (hL : 0 < L) (B : Beads M) (c : Closed M L) : IsCore M M L := by
  refine ⟨B.nd, fun x => ?_⟩
  have hr := rest_ok hL x
  have Q := cl_beads B hL (x % L)
  have e := qr_of L x
  have h := closed_mem Q.nd Q.nn (fun q hq h1 => by
    rw [mem_cl hr] at hq ⊢
    have hb := c _ hq ?_
    · rw [Int.mul_sub, Int.mul_one]
      have e2 : L * q - L + x % L = L * q + x % L - L := by omega
      rw [e2]
      exact hb
    · have := Int.mul_le_mul_of_nonneg_left h1 (Int.le_of_lt hL)
      rw [Int.mul_one] at this
      omega) (x / L)
  rw [mem_cl hr, ← e, cl_len] at h
  rw [h]
  unfold Low
  constructor
  · rintro ⟨a, b⟩
    refine ⟨?_, b⟩
    have := Int.mul_nonneg (Int.le_of_lt hL) a
    omega
  · rintro ⟨a, b⟩
    exact ⟨quo_nn hL a, b⟩
theorem Closed.many {M : List Int} {L : Int} (hL : 0 < L) (B : Beads M) (c : Closed M L) : manyOf M L = 0 := by
  refine many_eq hL ?_
  rw [many_sum, perm_sum ((lowsOf_core hL M).perm (c.core hL B) (List.Perm.refl _))]
  omega
/-- one mark less the length -/
theorem take_beads {M N : List Int} {m L : Int} (hL : 0 < L) (B : Beads (m :: M)) (h1 : L ≤ m) (h2 : m - L ∉ M) : Beads ((m - L) :: M) := by
  refine ⟨List.nodup_cons.mpr ⟨h2, (List.nodup_cons.mp B.nd).2⟩, fun x hx => ?_⟩
  rcases List.mem_cons.mp hx with e | e
  · omega
  · exact B.nn x (List.mem_cons_of_mem _ e)
theorem take_low {M : List Int} {m L : Int} (hL : 0 < L) (x : Int) : Low ((m - L) :: M) L x ↔ Low (m :: M) L x := by
  unfold Low
  rw [cnt_cons, cnt_cons, (sub_len hL m).2]
theorem take_many {M : List Int} {m L : Int} (hL : 0 < L) : manyOf ((m - L) :: M) L = manyOf (m :: M) L - 1 := by
  refine many_eq hL ?_
  have p : (lowsOf ((m - L) :: M) L).Perm (lowsOf (m :: M) L) :=
    perm_of_mem (lowsOf_core hL _).nd (lowsOf_core hL _).nd fun x => by rw [(lowsOf_core hL _).mem, (lowsOf_core hL _).mem, take_low hL]
  rw [Int.mul_sub, many_sum, many_sum, perm_sum p, List.sum_cons, List.sum_cons]
  omega
theorem many_nn {L : Int} (hL : 0 < L) : ∀ (n : Nat) (M : List Int), Beads M → M.sum.toNat < n → 0 ≤ manyOf M L ∧ (manyOf M L = 0 → Closed M L) := by
  intro n
  induction n with
  | zero => intro M _ h; omega
  | succ n ih =>
    intro M B hs
    by_cases hc : Closed M L
    · rw [hc.many hL B]
      exact ⟨Int.le_refl 0, fun _ => hc⟩
    · obtain ⟨m, hm, h1, h2⟩ : ∃ m, m ∈ M ∧ L ≤ m ∧ m - L ∉ M := Classical.byContradiction fun q => hc fun m hm hl => Classical.byContradiction fun h => q ⟨m, hm, hl, h⟩
      have p := List.perm_cons_erase hm
      have B1 := B.perm p
      have h3 : m - L ∉ M.erase m := fun h => h2 (List.mem_of_mem_erase h)
      have B2 := take_beads (N := M) hL B1 h1 h3
      have hsum : M.sum = m + (M.erase m).sum := by rw [perm_sum p, List.sum_cons]
      have nn : ∀ l : List Int, (∀ x ∈ l, 0 ≤ x) → 0 ≤ l.sum := by
        intro l
        induction l with
        | nil => intro _; exact Int.le_refl 0
        | cons y r ih =>
          intro h
          have := ih fun z hz => h z (List.mem_cons_of_mem _ hz)
          have := h y List.mem_cons_self
          rw [List.sum_cons]
          omega
      have := nn _ fun x hx => B1.nn x (List.mem_cons_of_mem _ hx)
      have ih' := ih _ B2 (by rw [List.sum_cons]; omega)
      rw [take_many hL] at ih'
      rw [many_congr hL p]
      exact ⟨by omega, fun q => absurd ih'.1 (by omega)⟩
theorem many_ge {L : Int} (hL : 0 < L) {M : List Int} (B : Beads M) : 0 ≤ manyOf M L := (many_nn hL _ M B (Nat.lt_succ_self _)).1
theorem many_zero {L : Int} (hL : 0 < L) {M : List Int} (B : Beads M) : manyOf M L = 0 ↔ Closed M L := ⟨(many_nn hL _ M B (Nat.lt_succ_self _)).2, fun c => c.many hL B⟩

/-- a mark at a row gone down by the length -/
def dropAt (M : List Int) (i : Nat) (L : Int) : List Int := M.set i (M.getD i 0 - L)
def behindOf (h : List Int) (L : Int) (i : Nat) : List Int := heapOf (dropAt (marksOf h) i L)
/-- a row at which a rim can be taken off -/
def IsRim (M : List Int) (L : Int) (i : Nat) : Prop := ∃ m, M[i]? = some m ∧ L ≤ m ∧ m - L ∉ M
theorem drop_perm {M : List Int} {i : Nat} {m : Int} (h : M[i]? = some m) (L : Int) : M.Perm (m :: M.eraseIdx i) ∧ (dropAt M i L).Perm ((m - L) :: M.eraseIdx i) := by
  have hi : i < M.length := (List.getElem?_eq_some_iff.mp h).1
  have em : M.getD i 0 = m := by
    rw [List.getD_eq_getElem?_getD, h]
    rfl
  unfold dropAt
  rw [em]
  have e1 : M = M.take i ++ m :: M.drop (i + 1) := by
    have h3 := (List.getElem?_eq_some_iff.mp h).2
    rw [← h3, ← List.drop_eq_getElem_cons hi, List.take_append_drop]
  have e2 : M.set i (m - L) = M.take i ++ (m - L) :: M.drop (i + 1) := List.set_eq_take_append_cons_drop ▸ by simp [hi]
  rw [e2, List.eraseIdx_eq_take_drop_succ]
  refine ⟨?_, List.perm_middle⟩
  exact (List.Perm.of_eq e1).trans List.perm_middle
end Rh

namespace Rh

/-- the rows at which a rim can be taken off, by the marks -/
def rimsM (M : List Int) (L : Int) : List Int := M.zipIdx.filterMap fun p => if L ≤ p.1 ∧ p.1 - L ∉ M then some ((p.2 : Nat) : Int) else none
def rimsH (h : List Int) (L : Int) : List Int := rimsM (marksOf h) L
theorem rimsM_len (M : List Int) (L : Int) : (rimsM M L).length ≤ M.length := by
  unfold rimsM
  refine Nat.le_trans (List.length_filterMap_le _ _) ?_
  rw [List.length_zipIdx]
  exact Nat.le_refl _
theorem mem_rimsM {M : List Int} {L r : Int} : r ∈ rimsM M L ↔ ∃ i : Nat, r = i ∧ IsRim M L i := by
  unfold rimsM
  rw [List.mem_filterMap]
  constructor
  · rintro ⟨⟨m, i⟩, hm, h⟩
    split at h
    · rename_i c
      cases h
      have h2 := List.mem_zipIdx_iff_getElem?.mp hm
      exact ⟨i, rfl, m, h2, c.1, c.2⟩
    · cases h
  · rintro ⟨i, rfl, m, h1, h2, h3⟩
    exact ⟨(m, i), List.mem_zipIdx_iff_getElem?.mpr h1, if_pos ⟨h2, h3⟩⟩
theorem heapOf_len (M : List Int) : (heapOf M).length ≤ M.length := by
  unfold heapOf
  refine Nat.le_trans (List.length_filter_le _ _) ?_
  rw [rowsOf_len, (sortD_perm M).length_eq]
  exact Nat.le_refl _
theorem rim_lt {M : List Int} {L : Int} {i : Nat} (h : IsRim M L i) : i < M.length := by
  obtain ⟨m, h1, _⟩ := h
  exact (List.getElem?_eq_some_iff.mp h1).1
theorem dropAt_len (M : List Int) (i : Nat) (L : Int) : (dropAt M i L).length = M.length := by simp [dropAt]

theorem drop_beads {M : List Int} {L : Int} (hL : 0 < L) (B : Beads M) {i : Nat} (hr : IsRim M L i) : Beads (dropAt M i L) := by
  obtain ⟨m, h1, h2, h3⟩ := hr
  obtain ⟨p, q⟩ := drop_perm h1 L
  have h4 : m - L ∉ M.eraseIdx i := fun h => h3 (p.mem_iff.mpr (List.mem_cons_of_mem _ h))
  exact (take_beads (N := M) hL (B.perm p) h2 h4).perm q.symm
theorem behind_ok {h : List Int} {L : Int} {i : Nat} (H : IsHeap h) (hL : 0 < L) (hr : IsRim (marksOf h) L i) :
    IsHeap (behindOf h L i) ∧ (behindOf h L i).length ≤ h.length ∧ coreOf (behindOf h L i) L = coreOf h L ∧ rimsIn (behindOf h L i) L = rimsIn h L - 1 ∧ (behindOf h L i).sum = h.sum - L := by
  have B := marks_beads H
  have D := drop_beads hL B hr
  obtain ⟨m, h1, h2, h3⟩ := hr
  obtain ⟨p, q⟩ := drop_perm h1 L
  refine ⟨(beads_pad D).1, ?_, ?_, ?_, ?_⟩
  · refine Nat.le_trans (heapOf_len _) ?_
    rw [dropAt_len, marksOf_len]
    exact Nat.le_refl _
  · have c : IsCore (lowsOf (marksOf h) L) (dropAt (marksOf h) i L) L := by
      have c0 := (lowsOf_core hL (marksOf h)).of_perm p
      refine ⟨c0.nd, fun x => ?_⟩
      rw [c0.mem, Low.perm q, take_low hL]
    exact core_of_beads hL D c
  · show rimsIn (heapOf _) L = manyOf _ L - 1
    rw [rims_of_beads hL D, many_congr hL q, take_many hL, ← many_congr hL p]
  · show (heapOf _).sum = _
    rw [heapOf_sum D, dropAt_len, perm_sum q, List.sum_cons]
    have e := perm_sum p
    rw [List.sum_cons] at e
    have e2 := marksOf_sum h
    rw [marksOf_len]
    omega
theorem no_rims {M : List Int} {L : Int} : rimsM M L = [] ↔ Closed M L := by
  constructor
  · intro h m hm hl
    refine Classical.byContradiction fun q => ?_
    obtain ⟨i, hi⟩ := List.mem_iff_getElem?.mp hm
    have : ((i : Nat) : Int) ∈ rimsM M L := mem_rimsM.mpr ⟨i, rfl, m, hi, hl, q⟩
    rw [h] at this
    cases this
  · intro c
    cases e : rimsM M L with
    | nil => rfl
    | cons r s =>
      obtain ⟨i, _, m, h1, h2, h3⟩ := mem_rimsM.mp (show r ∈ rimsM M L by rw [e]; exact List.mem_cons_self)
      exact absurd (c m (List.mem_of_getElem? h1) h2) h3
theorem rims_none {h : List Int} {L : Int} (H : IsHeap h) (hL : 0 < L) : rimsH h L = [] ↔ rimsIn h L = 0 := by
  unfold rimsH rimsIn
  rw [no_rims, many_zero hL (marks_beads H)]
theorem rims_nn {h : List Int} {L : Int} (H : IsHeap h) (hL : 0 < L) : 0 ≤ rimsIn h L := many_ge hL (marks_beads H)
theorem core_self {h : List Int} {L : Int} (H : IsHeap h) (hL : 0 < L) (e : rimsIn h L = 0) : coreOf h L = h := by
  have c := (many_zero hL (marks_beads H)).mp e
  unfold coreOf
  rw [heapOf_congr ((lowsOf_core hL _).perm (c.core hL (marks_beads H)) (List.Perm.refl _)), heapOf_marks H]
theorem core_core {h : List Int} {L : Int} (H : IsHeap h) (hL : 0 < L) : coreOf (coreOf h L) L = coreOf h L ∧ rimsIn (coreOf h L) L = 0 := by
  have c := lowsOf_core hL (marksOf h)
  have cc := c.closed hL
  refine ⟨core_of_beads hL c.beads (cc.core hL c.beads), ?_⟩
  show rimsIn (heapOf _) L = 0
  rw [rims_of_beads hL c.beads, cc.many hL c.beads]
theorem coreOf_len {h : List Int} {L : Int} : (coreOf h L).length ≤ h.length := by
  refine Nat.le_trans (heapOf_len _) ?_
  rw [lowsOf_len, marksOf_len]
  exact Nat.le_refl _

structure Tally (T : List (Int × Nat)) (M : List Int) (L : Int) : Prop where
  nd : (T.map (·.1)).Nodup
  mem : ∀ r c, (r, c) ∈ T ↔ c = cnt M L r ∧ 0 < c
def steps (L r : Int) (c : Nat) : List Int := (List.range c).map fun (k : Nat) => r + L * (k : Int)
def flat (L : Int) (T : List (Int × Nat)) : List Int := T.flatMap fun p => steps L p.1 p.2
theorem cnt_pos {M : List Int} {L r : Int} (h : 0 < cnt M L r) : ∃ m, m ∈ M ∧ m % L = r := by
  unfold cnt at h
  obtain ⟨m, h1, h2⟩ := List.countP_pos_iff.mp h
  exact ⟨m, h1, of_decide_eq_true h2⟩
theorem Tally.rest {T : List (Int × Nat)} {M : List Int} {L : Int} (hL : 0 < L) (t : Tally T M L) {r : Int} {c : Nat} (h : (r, c) ∈ T) : 0 ≤ r ∧ r < L := by
  obtain ⟨h1, h2⟩ := (t.mem r c).mp h
  rw [h1] at h2
  obtain ⟨m, _, e⟩ := cnt_pos h2
  have := rest_ok hL m
  omega
theorem mem_steps {L r x : Int} {c : Nat} (hr : 0 ≤ r ∧ r < L) : x ∈ steps L r c ↔ 0 ≤ x ∧ x % L = r ∧ x / L < c := by
  unfold steps
  rw [List.mem_map]
  constructor
  · rintro ⟨k, hk, rfl⟩
    have hk := List.mem_range.mp hk
    obtain ⟨a, b⟩ := qr hr.1 hr.2 (show r + L * (k : Int) = L * k + r by omega)
    have := Int.mul_nonneg (show 0 ≤ L by omega) (Int.natCast_nonneg k)
    exact ⟨by omega, b, by omega⟩
  · rintro ⟨h0, h1, h2⟩
    have hq := quo_nn (show 0 < L by omega) h0
    refine ⟨(x / L).toNat, List.mem_range.mpr (by omega), ?_⟩
    have e := qr_of L x
    rw [Int.toNat_of_nonneg hq]
    omega
theorem steps_nd {L r : Int} (hL : 0 < L) (c : Nat) : (steps L r c).Nodup := by
  unfold steps
  rw [List.nodup_iff_pairwise_ne, List.pairwise_map]
  refine List.Pairwise.imp (fun h e => h ?_) (List.nodup_iff_pairwise_ne.mp List.nodup_range)
  rename_i a b
  have : L * (a : Int) = L * (b : Int) := by omega
  have := many_eq hL this
  omega
theorem flat_core {T : List (Int × Nat)} {M : List Int} {L : Int} (hL : 0 < L) (t : Tally T M L) : IsCore (flat L T) M L := by
  refine ⟨?_, fun x => ?_⟩
  · have : ∀ S : List (Int × Nat), (S.map (·.1)).Nodup → (∀ p ∈ S, 0 ≤ p.1 ∧ p.1 < L) → (flat L S).Nodup := by
      intro S
      induction S with
      | nil => intro _ _; exact List.nodup_nil
      | cons p S ih =>
        intro h1 h2
        obtain ⟨h3, h4⟩ := List.nodup_cons.mp h1
        show (steps L p.1 p.2 ++ flat L S).Nodup
        refine List.nodup_append.mpr ⟨steps_nd hL _, ih h4 fun q hq => h2 q (List.mem_cons_of_mem _ hq), fun x hx y hy e => ?_⟩
        subst e
        obtain ⟨_, e1, _⟩ := (mem_steps (h2 p List.mem_cons_self)).mp hx
        obtain ⟨q, hq, hy⟩ := List.mem_flatMap.mp hy
        obtain ⟨_, e2, _⟩ := (mem_steps (h2 q (List.mem_cons_of_mem _ hq))).mp hy
        exact h3 (List.mem_map.mpr ⟨q, hq, e2.symm.trans e1⟩)
    exact this T t.nd fun p hp => t.rest hL hp
  · unfold flat Low
    rw [List.mem_flatMap]
    constructor
    · rintro ⟨p, hp, hx⟩
      obtain ⟨h0, h1, h2⟩ := (mem_steps (t.rest hL hp)).mp hx
      obtain ⟨h3, _⟩ := (t.mem p.1 p.2).mp hp
      refine ⟨h0, ?_⟩
      rw [h1, ← h3]
      exact h2
    · rintro ⟨h0, h1⟩
      have hq := quo_nn hL h0
      have hc : (x % L, cnt M L (x % L)) ∈ T := (t.mem _ _).mpr ⟨rfl, by omega⟩
      exact ⟨_, hc, (mem_steps (t.rest hL hc)).mpr ⟨h0, rfl, h1⟩⟩
theorem flat_core_of {T : List (Int × Nat)} {h : List Int} {L : Int} (hL : 0 < L) (t : Tally T (marksOf h) L) : heapOf (flat L T) = coreOf h L :=
  heapOf_congr ((flat_core hL t).perm (lowsOf_core hL _) (List.Perm.refl _))
theorem flat_len {T : List (Int × Nat)} {M : List Int} {L : Int} (hL : 0 < L) (t : Tally T M L) : (flat L T).length = M.length := by
  rw [((flat_core hL t).perm (lowsOf_core hL _) (List.Perm.refl _)).length_eq, lowsOf_len]
/-- the sum of the first quotients: c * (c - 1) // 2 -/
theorem tri_eq : ∀ c : Nat, ((c : Int) * ((c : Int) - 1)) / 2 = tri c
  | 0 => rfl
  | c + 1 => by
    have ih := tri_eq c
    show ((c + 1 : Nat) : Int) * (((c + 1 : Nat) : Int) - 1) / 2 = tri c + (c : Int)
    have e : ((c + 1 : Nat) : Int) * (((c + 1 : Nat) : Int) - 1) = (c : Int) * ((c : Int) - 1) + (c : Int) * 2 := by
      have e1 : ((c + 1 : Nat) : Int) = (c : Int) + 1 := by omega
      rw [e1, Int.add_sub_cancel, Int.add_mul, Int.mul_sub, Int.one_mul, Int.mul_one]
      omega
    rw [e, Int.add_mul_ediv_right _ _ (by omega), ih]
theorem steps_sum (L r : Int) : ∀ c : Nat, (steps L r c).sum = r * c + L * tri c
  | 0 => by simp [steps, tri]
  | c + 1 => by
    have ih := steps_sum L r c
    unfold steps at ih ⊢
    rw [List.range_succ, List.map_append, List.sum_append, ih]
    show r * c + L * tri c + (r + L * (c : Int) + 0) = r * ((c + 1 : Nat) : Int) + L * (tri c + (c : Int))
    have e1 : ((c + 1 : Nat) : Int) = (c : Int) + 1 := by omega
    rw [e1, Int.mul_add, Int.mul_add, Int.mul_one]
    omega
def lowSum (T : List (Int × Nat)) : Int := (T.map fun p => tri p.2).sum
theorem flat_sum (L : Int) : ∀ T : List (Int × Nat), (flat L T).sum = (T.map fun p => p.1 * (p.2 : Int)).sum + L * lowSum T
  | [] => by simp [flat, lowSum]
  | p :: T => by
    have ih := flat_sum L T
    show (steps L p.1 p.2 ++ flat L T).sum = (p.1 * (p.2 : Int) + (T.map fun p => p.1 * (p.2 : Int)).sum) + L * (tri p.2 + lowSum T)
    rw [List.sum_append, steps_sum, ih, Int.mul_add]
    omega
theorem sum_split (f : Int → Int) (c : Int → Bool) : ∀ M : List Int, (M.map f).sum = ((M.filter c).map f).sum + ((M.filter fun m => !c m).map f).sum
  | [] => rfl
  | m :: M => by
    have ih := sum_split f c M
    rw [List.map_cons, List.sum_cons, List.filter_cons, List.filter_cons]
    cases h : c m
    · simp
      omega
    · simp
      omega
theorem rests_sum {L : Int} : ∀ (T : List (Int × Nat)) (M : List Int), Tally T M L → (M.map (· % L)).sum = (T.map fun p => p.1 * (p.2 : Int)).sum
  | [], M, t => by
    have : M = [] := by
      cases M with
      | nil => rfl
      | cons m r =>
        have h : ((m % L), cnt (m :: r) L (m % L)) ∈ ([] : List (Int × Nat)) := (t.mem _ _).mpr ⟨rfl, by rw [cnt_cons, if_pos rfl]; omega⟩
        cases h
    rw [this]
    rfl
  | (s, c) :: T, M, t => by
    obtain ⟨h1, h2⟩ := List.nodup_cons.mp t.nd
    have e : ∀ r, r ≠ s → cnt (M.filter fun m => !decide (m % L = s)) L r = cnt M L r := fun r hr => by
      unfold cnt
      rw [List.countP_filter]
      refine List.countP_congr fun m _ => ?_
      simp only [Bool.and_eq_true, decide_eq_true_eq, Bool.not_eq_true', decide_eq_false_iff_not]
      constructor
      · exact fun h => h.1
      · exact fun h => ⟨h, by omega⟩
    have e0 : cnt (M.filter fun m => !decide (m % L = s)) L s = 0 := by
      unfold cnt
      rw [List.countP_filter, List.countP_eq_zero]
      intro m _
      simp
    have t' : Tally T (M.filter fun m => !decide (m % L = s)) L := by
      refine ⟨h2, fun r d => ?_⟩
      by_cases hr : r = s
      · subst hr
        rw [e0]
        constructor
        · intro hm
          exact absurd (List.mem_map.mpr ⟨_, hm, rfl⟩) h1
        · rintro ⟨a, b⟩
          omega
      · rw [e r hr, ← t.mem]
        constructor
        · exact fun h => List.mem_cons_of_mem _ h
        · intro h
          rcases List.mem_cons.mp h with q | q
          · exact absurd (congrArg Prod.fst q) hr
          · exact q
    have ih := rests_sum T _ t'
    rw [sum_split _ (fun m => decide (m % L = s)), ih]
    have hc : c = cnt M L s := ((t.mem s c).mp List.mem_cons_self).1
    have ef : ∀ N : List Int, (∀ m ∈ N, m % L = s) → (N.map (· % L)).sum = s * (N.length : Int) := by
      intro N
      induction N with
      | nil => intro _; simp
      | cons m N ih =>
        intro h
        have e1 := ih fun x hx => h x (List.mem_cons_of_mem _ hx)
        have e2 := h m List.mem_cons_self
        rw [List.map_cons, List.sum_cons, e1, e2, List.length_cons]
        have e3 : ((N.length + 1 : Nat) : Int) = (N.length : Int) + 1 := by omega
        rw [e3, Int.mul_add, Int.mul_one]
        omega
    rw [ef _ fun m hm => of_decide_eq_true (List.mem_filter.mp hm).2]
    have el : (M.filter fun m => decide (m % L = s)).length = c := by
      rw [hc]
      unfold cnt
      rw [List.countP_eq_length_filter]
    rw [el]
    rfl
theorem sum_qr (L : Int) : ∀ M : List Int, M.sum = L * (M.map (· / L)).sum + (M.map (· % L)).sum
  | [] => by simp
  | m :: M => by
    have ih := sum_qr L M
    have e := qr_of L m
    rw [List.sum_cons, List.map_cons, List.map_cons, List.sum_cons, List.sum_cons, Int.mul_add]
    omega
/-- how many rims, as the program reckons it -/
theorem many_tally {T : List (Int × Nat)} {M : List Int} {L : Int} (hL : 0 < L) (t : Tally T M L) : (M.map (· / L)).sum - lowSum T = manyOf M L := by
  refine many_eq hL ?_
  have e1 := sum_qr L M
  have e2 := rests_sum T M t
  have e3 := flat_sum L T
  have e4 := perm_sum ((flat_core hL t).perm (lowsOf_core hL M) (List.Perm.refl _))
  rw [many_sum, Int.mul_sub]
  omega
end Rh
namespace Rh
def insD (x : Int) : List Int → List Int
  | [] => [x]
  | y :: r => if y ≤ x then x :: y :: r else y :: insD x r
def isort : List Int → List Int
  | [] => []
  | x :: r => insD x (isort r)
theorem insD_perm (x : Int) : ∀ l : List Int, (insD x l).Perm (x :: l)
  | [] => List.Perm.refl _
  | y :: r => by
    unfold insD
    split
    · exact List.Perm.refl _
    · exact ((insD_perm x r).cons y).trans (List.Perm.swap x y r)
theorem insD_falls (x : Int) : ∀ l : List Int, l.Pairwise (· ≥ ·) → (insD x l).Pairwise (· ≥ ·)
  | [], _ => List.pairwise_singleton _ _
  | y :: r, h => by
    obtain ⟨a, b⟩ := List.pairwise_cons.mp h
    unfold insD
    split
    · rename_i hxy
      refine List.pairwise_cons.mpr ⟨fun z hz => ?_, h⟩
      rcases List.mem_cons.mp hz with e | e
      · omega
      · have := a z e
        omega
    · refine List.pairwise_cons.mpr ⟨fun z hz => ?_, insD_falls x r b⟩
      rcases List.mem_cons.mp ((insD_perm x r).mem_iff.mp hz) with e | e
      · omega
      · exact a z e
theorem isort_perm : ∀ l : List Int, (isort l).Perm l
  | [] => List.Perm.refl _
  | x :: r => (insD_perm x _).trans ((isort_perm r).cons x)
theorem isort_falls : ∀ l : List Int, (isort l).Pairwise (· ≥ ·)
  | [] => List.Pairwise.nil
  | x :: r => insD_falls x _ (isort_falls r)
theorem sortD_isort (M : List Int) : sortD M = isort M := (sortD_eq (isort_perm M) (isort_falls M)).symm
theorem heapOf_run (M : List Int) : heapOf M = (rowsOf (isort M)).filter fun x => decide (0 < x) := by
  unfold heapOf
  rw [sortD_isort]
theorem coreOf_run (h : List Int) (L : Int) : coreOf h L = (rowsOf (isort (lowsOf (marksOf h) L))).filter fun x => decide (0 < x) := heapOf_run _
theorem isHeap_dec {h : List Int} (a : h.all (fun x => decide (0 < x)) = true) (b : h.Pairwise (· ≥ ·)) : IsHeap h := ⟨fun x hx => of_decide_eq_true (List.all_eq_true.mp a x hx), b⟩
theorem rims_dec {h : List Int} {L : Int} (H : IsHeap h) (hL : 0 < L) : (!decide (decide (rimsH h L = []) = decide (rimsIn h L = 0))) = false := by
  rw [Bool.not_eq_false', decide_eq_true_eq, decide_eq_decide]
  exact rims_none H hL
end Rh
namespace Rh
theorem lowsFrom_snoc (L n : Int) : ∀ (r pre : List Int), lowsFrom L pre (r ++ [n]) = lowsFrom L pre r ++ [n % L + L * (cnt (pre ++ r) L (n % L) : Int)]
  | [], pre => by
    rw [List.append_nil]
    rfl
  | m :: r, pre => by
    have ih := lowsFrom_snoc L n r (pre ++ [m])
    rw [List.append_assoc] at ih
    show _ :: lowsFrom L (pre ++ [m]) (r ++ [n]) = _ :: (lowsFrom L (pre ++ [m]) r ++ _)
    rw [ih]
    rfl
theorem lowsOf_snoc (L n : Int) (M : List Int) : lowsOf (M ++ [n]) L = lowsOf M L ++ [n % L + L * (cnt M L (n % L) : Int)] := lowsFrom_snoc L n M []
theorem manyFrom_snoc (L n : Int) : ∀ (r pre : List Int), manyFrom L pre (r ++ [n]) = manyFrom L pre r + (n / L - (cnt (pre ++ r) L (n % L) : Int))
  | [], pre => by
    rw [List.append_nil]
    show (n / L - (cnt pre L (n % L) : Int)) + 0 = 0 + _
    omega
  | m :: r, pre => by
    have ih := manyFrom_snoc L n r (pre ++ [m])
    rw [List.append_assoc] at ih
    show (m / L - (cnt pre L (m % L) : Int)) + manyFrom L (pre ++ [m]) (r ++ [n]) = (m / L - (cnt pre L (m % L) : Int)) + manyFrom L (pre ++ [m]) r + _
    rw [ih]
    simp only [List.singleton_append]
    omega
theorem manyOf_snoc (L n : Int) (M : List Int) : manyOf (M ++ [n]) L = manyOf M L + n / L - (cnt M L (n % L) : Int) := by
  have := manyFrom_snoc L n M []
  rw [List.nil_append] at this
  show manyFrom L [] (M ++ [n]) = manyFrom L [] M + n / L - _
  omega
theorem sum_nn : ∀ {l : List Int}, (∀ x ∈ l, 0 ≤ x) → 0 ≤ l.sum
  | [], _ => Int.le_refl 0
  | y :: r, h => by
    have := sum_nn fun z hz => h z (List.mem_cons_of_mem _ hz)
    have := h y List.mem_cons_self
    rw [List.sum_cons]
    omega
theorem rims_le {h : List Int} {L : Int} (H : IsHeap h) (hL : 0 < L) : 0 ≤ rimsIn h L ∧ rimsIn h L ≤ h.sum := by
  have h1 := rims_sum hL H
  have h2 := rims_nn H hL
  have h3 := sum_nn fun x hx => Int.le_of_lt ((coreOf_heap hL h).pos x hx)
  refine ⟨h2, ?_⟩
  have : 1 * rimsIn h L ≤ L * rimsIn h L := Int.mul_le_mul_of_nonneg_right (by omega) h2
  omega
end Rh

namespace Rh
open PySem PySem.Spec PyProof.Rows L2 Evl

structure Dfn (P : Program) (w : World) (K : PySem.W.Frag) (mg : Str → Option Value) (base : Heap) (CX : CXT) (k : Nat) (x : Str) (f : Addr) (fd : FuncData) (ps : List Str) (sp : Sp) : Prop where
  ok : FnOk P w K mg base CX k f fd ps sp
  kp : PySem.W.keepIn K (.ref f) = true
  bd : Binds K fd ps []
  gl : mg x = some (.ref f)
/-- the built-in names that the program has not bound anew -/
structure Bl (mg : Str → Option Value) : Prop where
  len : mg "len" = none
  sum : mg "sum" = none
  all : mg "all" = none
  sorted : mg "sorted" = none
  isinstance : mg "isinstance" = none
  enumerate : mg "enumerate" = none
  range : mg "range" = none
  list : mg "list" = none
  max : mg "max" = none
  min : mg "min" = none
  abs : mg "abs" = none
  int : mg "int" = none
  bool : mg "bool" = none
theorem pe_dfn {X : Cx} {CX : CXT} {k j : Nat} {f : Addr} {fd : FuncData} {ps : List Str} {sp : Sp} {E : XK} {x : Str} {p pos : Pos} {e : Expr} {es : List Expr} {t : TA}
    (D : Dfn X.prog X.w X.K X.mg X.base CX j x f fd ps sp) (hr : Room k X.A) (hj : j ≤ k) (hg : Gl X x) (hx : Passes CX X E) (ha : PA X (e :: es) t)
    (hd : (x == ("__debug__" : Str)) = false := by decide)
    (he : starEach (e :: es) X.env = (false, eval e X.env) :: starEach es X.env := by rfl) (hpl : (backTo pos (starEach es X.env)).any (·.1) = false := by rfl) :
    PE X (.Call (.Name x p) (e :: es) [] pos) (tCall sp [] E t) :=
  pe_call D.ok (hr.mono hj) hg D.gl D.kp D.bd .nil hx ha (hdb := hd) (he := he) (hpl := hpl)

section
variable (K : PySem.W.Frag)
/-- (a list of ints) -/
def spL (Pre : List Int → Prop) (R : List Int → Hp → VK → Prop) : Sp := fun vs H Q _ => ∃ (a : Addr) (ns : List Int), vs = [.ref a] ∧ SqL K H a (ns.map V.int) ∧ Pre ns ∧ R ns H Q
/-- (a list of ints, an int) -/
def spLi (Pre : List Int → Int → Prop) (R : List Int → Int → Hp → VK → Prop) : Sp := fun vs H Q _ => ∃ (a : Addr) (ns : List Int) (i : Int), vs = [.ref a, .int i] ∧ SqL K H a (ns.map V.int) ∧ Pre ns i ∧ R ns i H Q
def spLii (Pre : List Int → Int → Int → Prop) (R : List Int → Int → Int → Hp → VK → Prop) : Sp := fun vs H Q _ => ∃ (a : Addr) (ns : List Int) (i j : Int), vs = [.ref a, .int i, .int j] ∧ SqL K H a (ns.map V.int) ∧ Pre ns i j ∧ R ns i j H Q
def spi (Pre : Int → Prop) (R : Int → Hp → VK → Prop) : Sp := fun vs H Q _ => ∃ (i : Int), vs = [.int i] ∧ Pre i ∧ R i H Q
def spiii (Pre : Int → Int → Int → Prop) (R : Int → Int → Int → Hp → VK → Prop) : Sp := fun vs H Q _ => ∃ (i j l : Int), vs = [.int i, .int j, .int l] ∧ Pre i j l ∧ R i j l H Q
end
abbrev RI (ns : List Int) : Hp → VK → Prop := RetL (ns.map V.int)
section
variable {K : PySem.W.Frag} {H : Hp} {a : Addr} {ns xs : List Int} {i j l : Int} {v : V}
theorem go_L {Pre R} (hs : SqL K H a (ns.map V.int)) (hp : Pre ns) (hR : R ns = RI xs) : SpL (spL K Pre R) [.ref a] H (xs.map V.int) := fun _ e Q q E => ⟨a, ns, rfl, ex_l e hs, hp, by rw [hR]; exact q⟩
theorem go_Lv {Pre R} (hs : SqL K H a (ns.map V.int)) (hp : Pre ns) (hR : R ns = RetV v) : SpV (spL K Pre R) [.ref a] H v := fun _ e Q q E => ⟨a, ns, rfl, ex_l e hs, hp, by rw [hR]; exact q⟩
theorem go_Li {Pre R} (hs : SqL K H a (ns.map V.int)) (hp : Pre ns i) (hR : R ns i = RI xs) : SpL (spLi K Pre R) [.ref a, .int i] H (xs.map V.int) := fun _ e Q q E => ⟨a, ns, i, rfl, ex_l e hs, hp, by rw [hR]; exact q⟩
theorem go_Liv {Pre R} (hs : SqL K H a (ns.map V.int)) (hp : Pre ns i) (hR : R ns i = RetV v) : SpV (spLi K Pre R) [.ref a, .int i] H v := fun _ e Q q E => ⟨a, ns, i, rfl, ex_l e hs, hp, by rw [hR]; exact q⟩
theorem go_Lii {Pre R} (hs : SqL K H a (ns.map V.int)) (hp : Pre ns i j) (hR : R ns i j = RI xs) : SpL (spLii K Pre R) [.ref a, .int i, .int j] H (xs.map V.int) := fun _ e Q q E => ⟨a, ns, i, j, rfl, ex_l e hs, hp, by rw [hR]; exact q⟩
theorem go_Liiv {Pre R} (hs : SqL K H a (ns.map V.int)) (hp : Pre ns i j) (hR : R ns i j = RetV v) : SpV (spLii K Pre R) [.ref a, .int i, .int j] H v := fun _ e Q q E => ⟨a, ns, i, j, rfl, ex_l e hs, hp, by rw [hR]; exact q⟩
theorem go_i {Pre R} (hp : Pre i) (hR : R i = RetV v) : SpV (spi Pre R) [.int i] H v := fun _ e Q q E => ⟨i, rfl, hp, by rw [hR]; exact q⟩
theorem go_iii {Pre R} (hp : Pre i j l) (hR : R i j l = RetV v) : SpV (spiii Pre R) [.int i, .int j, .int l] H v := fun _ e Q q E => ⟨i, j, l, rfl, hp, by rw [hR]; exact q⟩
end

section
variable {X : Cx} (K : PySem.W.Frag) (h : X.K = K)
include h
theorem k_len : CallR X (.builtin "len") (rLenS K) := by subst h; exact call_len_seq
theorem k_list : CallR X (.type "list") (rListS K) := by subst h; exact call_list_of
theorem k_sum (hc : X.calm = true) : CallR X (.builtin "sum") (rSum K) := by subst h; exact cr_sum hc
theorem k_max (hc : X.calm = true) : CallR X (.builtin "max") (rMax K) := by subst h; exact cr_max hc
theorem k_all (hc : X.calm = true) : CallR X (.builtin "all") (rAll K) := by subst h; exact cr_all hc
theorem k_isi : CallR X (.builtin "isinstance") (rIsi K) := by subst h; exact call_isi
theorem k_ixl : IxR X (rIxL K) := by subst h; exact ix_list
theorem k_ixt : IxR X (rIxT K) := by subst h; exact ix_tup
theorem k_sll : SlR X (rSlL K) := by subst h; exact sl_list
theorem k_in : OpR X (compareOp .In) (rIn K false) := by subst h; exact op_in_seq
theorem k_nin : OpR X (compareOp .NotIn) (rIn K true) := by subst h; exact op_notIn_seq
theorem k_eqD (hu : X.A.units + 64 < cLine) : OpR X (compareOp .Eq) (rEqD K) := by subst h; exact op_eqD hu
theorem k_neD (hu : X.A.units + 64 < cLine) : OpR X (compareOp .NotEq) (rNeD K) := by subst h; exact op_neD hu
theorem k_sorted {b : Bool} : CallRK X (.builtin "sorted") [Str.ofString "reverse"] (rSortedKw K b [.bl b]) := by subst h; exact cr_sortedRev
end

section
variable {K : PySem.W.Frag} {σ : L2.St} {H H' : Hp} {ta tb te tx tl : TE} {t u : TT} {x y z v : V} {i j : Int} {a : Addr} {ns ms : List Int}
theorem sq_map (h : H a = some (.lst (ns.map V.int))) : SqL K H a (ns.map V.int) := Or.inl (Or.inl h)
theorem ev_add (ha : Ev ta σ H (.int i)) (hb : Ev tb σ H (.int j)) : Ev (tOp (rI0 fun i j => .int (i + j)) ta tb) σ H (.int (i + j)) := ev_op ha hb rv_I0
theorem ev_sub (ha : Ev ta σ H (.int i)) (hb : Ev tb σ H (.int j)) : Ev (tOp (rI0 fun i j => .int (i - j)) ta tb) σ H (.int (i - j)) := ev_op ha hb rv_I0
theorem ev_mul (ha : Ev ta σ H (.int i)) (hb : Ev tb σ H (.int j)) (h : CMul i j) : Ev (tOp (rI CMul fun i j => .int (i * j)) ta tb) σ H (.int (i * j)) := ev_op ha hb (rv_I h)
theorem ev_mulW (ha : Ev ta σ H (.int i)) (hb : Ev tb σ H (.int j)) (h : IntMulOk i j) : Ev (tOp (rI IntMulOk fun i j => .int (i * j)) ta tb) σ H (.int (i * j)) := ev_op ha hb (rv_I h)
theorem ev_mod (ha : Ev ta σ H (.int i)) (hb : Ev tb σ H (.int j)) (h : 0 < j) : Ev (tOp (rI (fun _ j => 0 < j) fun i j => .int (i % j)) ta tb) σ H (.int (i % j)) := ev_op ha hb (rv_I h)
theorem ev_div (ha : Ev ta σ H (.int i)) (hb : Ev tb σ H (.int j)) (h : CDivW i j) : Ev (tOp (rI CDivW fun i j => .int (i / j)) ta tb) σ H (.int (i / j)) := ev_op ha hb (rv_I h)
theorem ev_pow (ha : Ev ta σ H (.int i)) (hb : Ev tb σ H (.int j)) (h : CPow i j) : Ev (tOp (rI CPow fun i j => .int (i ^ j.toNat)) ta tb) σ H (.int (i ^ j.toNat)) := ev_op ha hb (rv_I h)
theorem ev_neg (ha : Ev ta σ H (.int i)) : Ev (tUn (rU fun i => .int (-i)) ta) σ H (.int (-i)) := ev_un ha ru_neg
theorem ev_lt (ha : Ev ta σ H (.int i)) (hb : Ev tb σ H (.int j)) : Ev (tOp (rI0 fun i j => .bl (decide (i < j))) ta tb) σ H (.bl (decide (i < j))) := ev_op ha hb rv_I0
theorem ev_le (ha : Ev ta σ H (.int i)) (hb : Ev tb σ H (.int j)) : Ev (tOp (rI0 fun i j => .bl (decide (i ≤ j))) ta tb) σ H (.bl (decide (i ≤ j))) := ev_op ha hb rv_I0
theorem ev_gt (ha : Ev ta σ H (.int i)) (hb : Ev tb σ H (.int j)) : Ev (tOp (rI0 fun i j => .bl (decide (j < i))) ta tb) σ H (.bl (decide (j < i))) := ev_op ha hb rv_I0
theorem ev_ge (ha : Ev ta σ H (.int i)) (hb : Ev tb σ H (.int j)) : Ev (tOp (rI0 fun i j => .bl (decide (j ≤ i))) ta tb) σ H (.bl (decide (j ≤ i))) := ev_op ha hb rv_I0
theorem dec_i {i j : Int} : decide (V.int i = V.int j) = decide (i = j) := by
  rw [Bool.eq_iff_iff]
  simp
theorem ev_eqI (ha : Ev ta σ H (.int i)) (hb : Ev tb σ H (.int j)) : Ev (tOp rEq ta tb) σ H (.bl (decide (i = j))) := by
  rw [← dec_i]
  exact ev_op ha hb (rv_eq rfl)
theorem ev_neI (ha : Ev ta σ H (.int i)) (hb : Ev tb σ H (.int j)) : Ev (tOp rNe ta tb) σ H (.bl (!decide (i = j))) := by
  rw [← dec_i]
  exact ev_op ha hb (rv_ne rfl)
theorem dec_b {i j : Bool} : decide (V.bl i = V.bl j) = decide (i = j) := by
  rw [Bool.eq_iff_iff]
  simp
theorem ev_eqB {i j : Bool} (ha : Ev ta σ H (.bl i)) (hb : Ev tb σ H (.bl j)) : Ev (tOp rEq ta tb) σ H (.bl (decide (i = j))) := by
  rw [← dec_b]
  exact ev_op ha hb (rv_eq rfl)
theorem et_yes : EvT tYes σ H true := fun H1 _ _ q => q H1 (Ex.refl H1)
theorem atI_int {k : Nat} {n : Int} (h : ns[k]? = some n) : atI (ns.map V.int) (k : Int) = some (.int n) := atI_nat (by rw [List.getElem?_map, h]; rfl)
theorem ev_ix {k : Nat} {n : Int} (ha : Ev ta σ H (.ref a)) (hb : Ev tb σ H (.int (k : Int))) (hs : SqL K H a (ns.map V.int)) (h : ns[k]? = some n) : Ev (tOp (rIxL K) ta tb) σ H (.int n) :=
  ev_op ha hb (rv_ixL hs (atI_int h))
/-- op_mul without a bound that is said by powers of two -/
theorem op_mulO {X : Cx} : OpR X (binaryOp .Mult) (rI IntMulOk fun i j => .int (i * j)) := opI fun _ _ _ _ _ _ _ hc q => mul_int q hc

def dI (ns : List Int) : PyData := .list (ns.map PyData.int)
theorem dpAll_ints : ∀ ns : List Int, DpAll K H (ns.map V.int) (ns.map PyData.int)
  | [] => .nil
  | n :: r => .cons (.int n) (dpAll_ints r)
theorem dp_I (h : SqL K H a (ns.map V.int)) : Dp K H (.ref a) (dI ns) := .lst h (dpAll_ints ns)
theorem canLay_ints : ∀ ns : List Int, PyData.canLayAll0 (ns.map PyData.int) = true
  | [] => by simp only [List.map_nil, PyData.canLayAll0]
  | n :: r => by
    rw [List.map_cons]
    simp only [PyData.canLayAll0, PyData.canLay0, canLay_ints r, Bool.and_self]
theorem depth_ints : ∀ ns : List Int, PyData.depthAll (ns.map PyData.int) = 0
  | [] => by simp only [List.map_nil, PyData.depthAll]
  | n :: r => by
    rw [List.map_cons]
    simp only [PyData.depthAll, PyData.depth, depth_ints r, Nat.max_self]
theorem shaped_I (ns : List Int) : SeqAt.shaped (dI ns) = true := by
  unfold SeqAt.shaped dI
  simp only [PyData.canLay0, canLay_ints, PyData.depth, depth_ints, Bool.true_and]
  decide
theorem eqvAll_ints : ∀ ns ms : List Int, PyData.eqvAll (ns.map PyData.int) (ms.map PyData.int) = decide (ns = ms)
  | [], [] => by simp [PyData.eqvAll]
  | [], m :: s => by simp [PyData.eqvAll]
  | n :: r, [] => by simp [PyData.eqvAll]
  | n :: r, m :: s => by
    rw [List.map_cons, List.map_cons]
    simp only [PyData.eqvAll, PyData.eqv, eqvAll_ints r s]
    rw [Bool.eq_iff_iff]
    simp
theorem eqv_I (ns ms : List Int) : PyData.eqv (dI ns) (dI ms) = decide (ns = ms) := by
  unfold dI
  simp only [PyData.eqv]
  exact eqvAll_ints ns ms
theorem rv_eqI {b : Addr} (ha : SqL K H a (ns.map V.int)) (hb : SqL K H b (ms.map V.int)) : RV (rEqD K) (.ref a) (.ref b) H (.bl (decide (ns = ms))) := fun H1 e Q q =>
  ⟨_, _, dp_I (ex_l e ha), dp_I (ex_l e hb), shaped_I _, shaped_I _, by rw [eqv_I]; exact q H1 (Ex.refl H1)⟩
theorem rv_neI {b : Addr} (ha : SqL K H a (ns.map V.int)) (hb : SqL K H b (ms.map V.int)) : RV (rNeD K) (.ref a) (.ref b) H (.bl (!decide (ns = ms))) := fun H1 e Q q =>
  ⟨_, _, dp_I (ex_l e ha), dp_I (ex_l e hb), shaped_I _, shaped_I _, by rw [eqv_I]; exact q H1 (Ex.refl H1)⟩
theorem ev_eqL {b : Addr} (h1 : Ev ta σ H (.ref a)) (h2 : Ev tb σ H (.ref b)) (ha : SqL K H a (ns.map V.int)) (hb : SqL K H b (ms.map V.int)) : Ev (tOp (rEqD K) ta tb) σ H (.bl (decide (ns = ms))) := ev_op h1 h2 (rv_eqI ha hb)
theorem ev_neL {b : Addr} (h1 : Ev ta σ H (.ref a)) (h2 : Ev tb σ H (.ref b)) (ha : SqL K H a (ns.map V.int)) (hb : SqL K H b (ms.map V.int)) : Ev (tOp (rNeD K) ta tb) σ H (.bl (!decide (ns = ms))) := ev_op h1 h2 (rv_neI ha hb)
/-- the left one new -/
theorem ev_eqN {b : Addr} (h1 : EvL ta σ H (ns.map V.int)) (h2 : Ev tb σ H (.ref b)) (hb : SqL K H b (ms.map V.int)) : Ev (tOp (rEqD K) ta tb) σ H (.bl (decide (ns = ms))) :=
  ev_opL1 h1 (fun _ e => h2.mono e) fun _ _ hp e => rv_eqI (sq_map hp) (ex_l e hb)
theorem ev_neN {b : Addr} (h1 : EvL ta σ H (ns.map V.int)) (h2 : Ev tb σ H (.ref b)) (hb : SqL K H b (ms.map V.int)) : Ev (tOp (rNeD K) ta tb) σ H (.bl (!decide (ns = ms))) :=
  ev_opL1 h1 (fun _ e => h2.mono e) fun _ _ hp e => rv_neI (sq_map hp) (ex_l e hb)
/-- the right one new -/
theorem ev_eqM (h1 : Ev ta σ H (.ref a)) (h2 : EvL tb σ H (ms.map V.int)) (ha : SqL K H a (ns.map V.int)) : Ev (tOp (rEqD K) ta tb) σ H (.bl (decide (ns = ms))) :=
  ev_opL h1 h2 fun _ _ hp e => rv_eqI (ex_l e ha) (sq_map hp)
theorem ev_neM (h1 : Ev ta σ H (.ref a)) (h2 : EvL tb σ H (ms.map V.int)) (ha : SqL K H a (ns.map V.int)) : Ev (tOp (rNeD K) ta tb) σ H (.bl (!decide (ns = ms))) :=
  ev_opL h1 h2 fun _ _ hp e => rv_neI (ex_l e ha) (sq_map hp)
/-- both new -/
theorem ev_eqNN (h1 : EvL ta σ H (ns.map V.int)) (h2 : EvL tb σ H (ms.map V.int)) : Ev (tOp (rEqD K) ta tb) σ H (.bl (decide (ns = ms))) :=
  ev_opLL h1 h2 fun _ _ _ hp hq _ => rv_eqI (sq_map hp) (sq_map hq)
theorem ev_neNN (h1 : EvL ta σ H (ns.map V.int)) (h2 : EvL tb σ H (ms.map V.int)) : Ev (tOp (rNeD K) ta tb) σ H (.bl (!decide (ns = ms))) :=
  ev_opLL h1 h2 fun _ _ _ hp hq _ => rv_neI (sq_map hp) (sq_map hq)
end

section
variable {K : PySem.W.Frag} {σ : L2.St} {H H' : Hp} {ta tb te tx tl : TE} {t u : TT} {x y z v : V} {i j : Int} {a : Addr} {ns ms : List Int}
theorem ev_lenL (ha : Ev ta σ H (.ref a)) (h : SqL K H a (ns.map V.int)) : Ev (tCB (rLenS K) (tCons ta tNil)) σ H (.int (ns.length : Int)) := fun H1 e Q q =>
  ha H1 e _ fun H2 e2 => ⟨a, _, rfl, Or.inl (ex_l (e.trans e2) h), by rw [List.length_map]; exact q H2 e2⟩
theorem ev_lenX {xs : List V} (ha : Ev ta σ H (.ref a)) (h : SqL K H a xs) : Ev (tCB (rLenS K) (tCons ta tNil)) σ H (.int (xs.length : Int)) := fun H1 e Q q =>
  ha H1 e _ fun H2 e2 => ⟨a, _, rfl, Or.inl (ex_l (e.trans e2) h), q H2 e2⟩
theorem ev_lenNew {xs : List V} (ha : EvL ta σ H xs) : Ev (tCB (rLenS K) (tCons ta tNil)) σ H (.int (xs.length : Int)) := fun H1 e Q q =>
  ha H1 e _ fun p H2 _ e2 h2 => ⟨p, _, rfl, Or.inl (sq_of h2), q H2 e2⟩
theorem ev_sumL (ha : Ev ta σ H (.ref a)) (h : SqL K H a (ns.map V.int)) : Ev (tCB (rSum K) (tCons ta tNil)) σ H (.int ns.sum) := fun H1 e Q q =>
  ha H1 e _ fun H2 e2 => ⟨a, _, rfl, ex_l (e.trans e2) h, q H2 e2⟩
theorem ev_sumN (ha : EvL ta σ H (ns.map V.int)) : Ev (tCB (rSum K) (tCons ta tNil)) σ H (.int ns.sum) := fun H1 e Q q =>
  ha H1 e _ fun p H2 _ e2 h2 => ⟨p, _, rfl, sq_map h2, q H2 e2⟩
theorem ev_allN {bs : List Bool} (ha : EvL ta σ H (bs.map V.bl)) : Ev (tCB (rAll K) (tCons ta tNil)) σ H (.bl (bs.all id)) := fun H1 e Q q =>
  ha H1 e _ fun p H2 _ e2 h2 => ⟨p, _, rfl, Or.inl (Or.inl h2), q H2 e2⟩
theorem el_listL (ha : Ev ta σ H (.ref a)) (h : SqL K H a (ns.map V.int)) : EvL (tCB (rListS K) (tCons ta tNil)) σ H (ns.map V.int) := el_list ha h
end

section
variable {K : PySem.W.Frag} {σ : L2.St} {H H' : Hp} {ta tb te tx tl : TE} {t u : TT} {x y z v : V} {i j : Int} {a : Addr} {ns ms : List Int}
def Cg (H : Hp) (Dl : Addr) (ys : List V) (H' : Hp) : Prop := H Dl = none ∧ Ex H H' ∧ H' Dl = some (.lst ys)
theorem Cg.start {Dl : Addr} (h : H Dl = none) : Cg H Dl [] (upd H Dl (.lst [])) := ⟨h, Ex.new h, upd_same⟩
theorem Cg.new {Dl T : Addr} {ys : List V} {o : HO} (p : Cg H Dl ys H') (h : H' T = none) : Cg H Dl ys (upd H' T o) := ⟨p.1, p.2.1.trans (Ex.new h), Ex.new h _ _ p.2.2⟩
theorem cg_turn {σ2 : L2.St} {Dl : Addr} {ys : List V} {o : Option V} (p : Cg H Dl ys H') (hz : ys.length < 100000) (ht : EvT t σ2 H' o.isSome) (he : ∀ y, o = some y → Ev te σ2 H' y) :
    t σ2 H' fun b H3 => if b = true then te σ2 H3 fun y H4 => ∃ acc, H4 Dl = some (.lst acc) ∧ acc.length < sizeLine ∧ Cg H Dl (ys ++ o.toList) (upd H4 Dl (.lst (acc ++ [y]))) else Cg H Dl (ys ++ o.toList) H3 := by
  obtain ⟨p1, p2, p3⟩ := p
  refine ht H' (Ex.refl H') _ fun H3 e3 => ?_
  cases o with
  | none =>
    show Cg H Dl (ys ++ []) H3
    rw [List.append_nil]
    exact ⟨p1, p2.trans e3, e3 _ _ p3⟩
  | some y =>
    show te σ2 H3 fun y' H4 => ∃ acc, H4 Dl = some (.lst acc) ∧ acc.length < sizeLine ∧ Cg H Dl (ys ++ [y]) (upd H4 Dl (.lst (acc ++ [y'])))
    exact he y rfl H3 e3 _ fun H4 e4 => ⟨ys, e4 _ _ (e3 _ _ p3), sz_lt hz, p1, Ex.mut ((p2.trans e3).trans e4) p1, upd_same⟩
theorem take_fm {ι : Type} {its : List ι} {i : Nat} {it : ι} (F : ι → Option V) (h : its[i]? = some it) : (its.take (i + 1)).filterMap F = (its.take i).filterMap F ++ (F it).toList := by
  rw [List.take_add_one, h, List.filterMap_append]
  congr 1
theorem fm_len {ι : Type} (its : List ι) (F : ι → Option V) (i : Nat) : ((its.take i).filterMap F).length ≤ its.length := by
  refine Nat.le_trans (List.length_filterMap_le _ _) ?_
  rw [List.length_take]
  exact Nat.min_le_right _ _
/-- over a list -/
theorem el_cX {xs : List V} {k : Nat} {vs : List Nat} (F : V → Option V) (h : Ev tl σ H (.ref a)) (hx : SqL K H a xs) (hz : xs.length ≤ 50000) (hw : ∀ x, wipe ((wipe σ vs).set k (some x)) vs = wipe σ vs)
    (ht : ∀ x ∈ xs, EvT t ((wipe σ vs).set k (some x)) H (F x).isSome) (he : ∀ x ∈ xs, ∀ y, F x = some y → Ev te ((wipe σ vs).set k (some x)) H y) :
    EvL (tLc (iList K tl) (gName k) t te vs) σ H (xs.filterMap F) := fun H0 e Q q => h H0 e _ fun H1 e1 => ⟨a, rfl, ⟨xs, ex_l (e.trans e1) hx⟩, fun Dl hD =>
  lc_list (xs := xs) (fun i H' => Cg H1 Dl ((xs.take i).filterMap F) H') (Cg.start hD) (fun i H' _ p => ex_l ((e.trans e1).trans p.2.1) hx) (fun i x H' hi p => ⟨hw x, by
    have hm := List.mem_of_getElem? hi
    rw [take_fm F hi]
    exact cg_turn p (by have := fm_len xs F i; omega) ((ht x hm).mono ((e.trans e1).trans p.2.1)) fun y hy => (he x hm y hy).mono ((e.trans e1).trans p.2.1)⟩)
    (fun H' p => by
      rw [List.take_length] at p
      exact q Dl H' (fresh_back e1 p.1) (e1.trans p.2.1) p.2.2)⟩
/-- over a list of ints: which are taken, and what they give -/
theorem el_cL {β : Type} {k : Nat} {vs : List Nat} (enc : β → V) (F : Int → Option β) (h : Ev tl σ H (.ref a)) (hx : SqL K H a (ns.map V.int)) (hz : ns.length ≤ 50000) (hw : ∀ x, wipe ((wipe σ vs).set k (some x)) vs = wipe σ vs)
    (ht : ∀ n ∈ ns, EvT t ((wipe σ vs).set k (some (.int n))) H (F n).isSome) (he : ∀ n ∈ ns, ∀ y, F n = some y → Ev te ((wipe σ vs).set k (some (.int n))) H (enc y)) :
    EvL (tLc (iList K tl) (gName k) t te vs) σ H ((ns.filterMap F).map enc) := by
  have e : (ns.filterMap F).map enc = (ns.map V.int).filterMap fun v => match v with | .int n => (F n).map enc | _ => none := by
    rw [List.filterMap_map, List.map_filterMap]
    rfl
  rw [e]
  refine el_cX _ h hx (by rw [List.length_map]; exact hz) hw (fun x hm => ?_) fun x hm y hy => ?_
  · obtain ⟨n, hn, rfl⟩ := List.mem_map.mp hm
    have := ht n hn
    show EvT t _ H ((F n).map enc).isSome
    rw [Option.isSome_map]
    exact this
  · obtain ⟨n, hn, rfl⟩ := List.mem_map.mp hm
    have hy : (F n).map enc = some y := hy
    obtain ⟨b, hb, rfl⟩ := Option.map_eq_some_iff.mp hy
    exact he n hn b hb
theorem el_cLm {β : Type} {k : Nat} {vs : List Nat} (enc : β → V) (f : Int → β) (h : Ev tl σ H (.ref a)) (hx : SqL K H a (ns.map V.int)) (hz : ns.length ≤ 50000) (hw : ∀ x, wipe ((wipe σ vs).set k (some x)) vs = wipe σ vs)
    (he : ∀ n ∈ ns, Ev te ((wipe σ vs).set k (some (.int n))) H (enc (f n))) : EvL (tLc (iList K tl) (gName k) tYes te vs) σ H ((ns.map f).map enc) := by
  have e : ns.map f = ns.filterMap fun n => some (f n) := (congrFun (List.filterMap_eq_map (f := f)) ns).symm
  rw [e]
  exact el_cL enc _ h hx hz hw (fun _ _ => et_yes) fun n hn y hy => by
    cases hy
    exact he n hn
/-- over a new list -/
theorem EvL.asIter {xs : List V} {k : Nat} {vs : List Nat} {ys : List V} (h : EvL tl σ H xs) (hh : ∀ p H1, Ex H H1 → H1 p = some (.lst xs) → EvL (tLc (iList K (tC (.ref p))) (gName k) t te vs) σ H1 ys) : EvL (tLc (iList K tl) (gName k) t te vs) σ H ys := fun H0 e Q q =>
  h H0 e _ fun p H1 _ e1 hp => hh p H1 (e.trans e1) hp H1 (Ex.refl H1) Q fun p2 H2 hp2 e2 h2 => q p2 H2 (fresh_back e1 hp2) (e1.trans e2) h2
/-- for a, b in enumerate -/
theorem lc_enum {xs : List V} {g : TG} {vs : List Nat} {H1 : Hp} {D : Addr} {Qd : Hp → Prop} (Pv : Nat → Hp → Prop) (h0 : Pv 0 (upd H1 D (.lst []))) (hl : ∀ i H, i ≤ xs.length → Pv i H → SqL K H a xs)
    (hs : ∀ i x T H, xs[i]? = some x → Pv i H → H T = none → g (.ref T) (wipe σ vs) (upd H T (.tup [.int (i : Nat), x])) fun σ2 H2 => wipe σ2 vs = wipe σ vs ∧ t σ2 H2 fun b H3 =>
      if b = true then te σ2 H3 fun y H4 => ∃ acc, H4 D = some (.lst acc) ∧ acc.length < sizeLine ∧ Pv (i + 1) (upd H4 D (.lst (acc ++ [y]))) else Pv (i + 1) H3) (hd : ∀ H, Pv xs.length H → Qd H) :
    ∃ W : Nat → Nat → Hp → Prop, (∃ m, W 0 m (upd H1 D (.lst []))) ∧ ∀ i m H, W i m H →
      ((Ite K a).stop i H ∧ Qd H) ∨ ((Ite K a).go i H ∧ ∃ Nx : Hp → Prop, (∀ H', Nx H' → ∃ m', m' < m ∧ W (i + 1) m' H') ∧ ∀ x H', (Ite K a).yld i H x H' → g x (wipe σ vs) H' fun σ2 H2 => wipe σ2 vs = wipe σ vs ∧ t σ2 H2 fun b H3 =>
        if b = true then te σ2 H3 fun y H4 => ∃ acc, H4 D = some (.lst acc) ∧ acc.length < sizeLine ∧ Nx (upd H4 D (.lst (acc ++ [y]))) else Nx H3) := by
  refine ⟨fun i m H => m = xs.length - i ∧ i ≤ xs.length ∧ Pv i H, ⟨xs.length, by simp, Nat.zero_le _, h0⟩, ?_⟩
  rintro i m H ⟨rfl, hi, p⟩
  have q := hl i H hi p
  by_cases hlt : i < xs.length
  · refine .inr ⟨⟨xs, xs[i], q, by simp [hlt]⟩, Pv (i + 1), fun H' p' => ⟨xs.length - (i + 1), by omega, rfl, hlt, p'⟩, fun x H' y => ?_⟩
    obtain ⟨T, x, rfl, nT, rfl, y⟩ := y
    exact hs i x T _ (y xs q) p nT
  · have e : i = xs.length := by omega
    subst e
    exact .inl ⟨⟨xs, q, Nat.le_refl _⟩, hd H p⟩
abbrev g2 (K : PySem.W.Frag) (k1 k2 : Nat) : TG := gTup K 2 (gCons (gName k1) (gCons (gName k2) gNil))
theorem g2_go {k1 k2 : Nat} {T : Addr} {x y : V} {Q : L2.St → Hp → Prop} (h : H T = some (.tup [x, y])) (q : Q ((σ.set k1 (some x)).set k2 (some y)) H) : g2 K k1 k2 (.ref T) σ H Q :=
  ⟨T, [x, y], rfl, .inl (.inl h), rfl, x, [y], rfl, y, [], rfl, rfl, q⟩
theorem el_cEX {xs : List V} {k1 k2 : Nat} {vs : List Nat} (F : V × Nat → Option V) (h : Ev tl σ H (.ref a)) (hx : SqL K H a xs) (hz : xs.length ≤ 50000) (hw : ∀ x y, wipe (((wipe σ vs).set k1 (some x)).set k2 (some y)) vs = wipe σ vs)
    (ht : ∀ x i, xs[i]? = some x → EvT t (((wipe σ vs).set k1 (some (.int (i : Nat)))).set k2 (some x)) H (F (x, i)).isSome)
    (he : ∀ x i, xs[i]? = some x → ∀ y, F (x, i) = some y → Ev te (((wipe σ vs).set k1 (some (.int (i : Nat)))).set k2 (some x)) H y) :
    EvL (tLc (iEnum K (tCons tl tNil)) (g2 K k1 k2) t te vs) σ H (xs.zipIdx.filterMap F) := fun H0 e Q q => h H0 e _ fun H1 e1 => ⟨a, xs, rfl, ex_l (e.trans e1) hx, fun Dl hD =>
  lc_enum (xs := xs) (fun i H' => Cg H1 Dl ((xs.zipIdx.take i).filterMap F) H') (Cg.start hD) (fun i H' _ p => ex_l ((e.trans e1).trans p.2.1) hx) (fun i x T H' hi p nT => g2_go upd_same ⟨hw _ _, by
    have hm : xs.zipIdx[i]? = some (x, i) := by rw [List.getElem?_zipIdx, hi]; simp
    rw [take_fm F hm]
    have p' := p.new (o := .tup [.int (i : Nat), x]) nT
    exact cg_turn p' (by have := fm_len xs.zipIdx F i; rw [List.length_zipIdx] at this; omega) ((ht x i hi).mono ((e.trans e1).trans p'.2.1)) fun y hy => (he x i hi y hy).mono ((e.trans e1).trans p'.2.1)⟩)
    (fun H' p => by
      have hl : xs.zipIdx.take xs.length = xs.zipIdx := List.take_of_length_le (by rw [List.length_zipIdx]; exact Nat.le_refl _)
      rw [hl] at p
      exact q Dl H' (fresh_back e1 p.1) (e1.trans p.2.1) p.2.2)⟩
theorem zipIdx_map {α β : Type} (f : α → β) (l : List α) : (l.map f).zipIdx = l.zipIdx.map fun p => (f p.1, p.2) := by
  rw [List.zipIdx_map]
  rfl
theorem el_cE {β : Type} {k1 k2 : Nat} {vs : List Nat} (enc : β → V) (F : Int × Nat → Option β) (h : Ev tl σ H (.ref a)) (hx : SqL K H a (ns.map V.int)) (hz : ns.length ≤ 50000)
    (hw : ∀ x y, wipe (((wipe σ vs).set k1 (some x)).set k2 (some y)) vs = wipe σ vs)
    (ht : ∀ n i, ns[i]? = some n → EvT t (((wipe σ vs).set k1 (some (.int (i : Nat)))).set k2 (some (.int n))) H (F (n, i)).isSome)
    (he : ∀ n i, ns[i]? = some n → ∀ y, F (n, i) = some y → Ev te (((wipe σ vs).set k1 (some (.int (i : Nat)))).set k2 (some (.int n))) H (enc y)) :
    EvL (tLc (iEnum K (tCons tl tNil)) (g2 K k1 k2) t te vs) σ H ((ns.zipIdx.filterMap F).map enc) := by
  have e : (ns.zipIdx.filterMap F).map enc = (ns.map V.int).zipIdx.filterMap fun v => match v with | (.int n, i) => (F (n, i)).map enc | _ => none := by
    rw [zipIdx_map, List.filterMap_map, List.map_filterMap]
    rfl
  rw [e]
  have inv : ∀ (x : V) (i : Nat), (ns.map V.int)[i]? = some x → ∃ n, ns[i]? = some n ∧ x = .int n := fun x i hi => by
    rw [List.getElem?_map] at hi
    obtain ⟨n, h1, h2⟩ := Option.map_eq_some_iff.mp hi
    exact ⟨n, h1, h2.symm⟩
  refine el_cEX _ h hx (by rw [List.length_map]; exact hz) hw (fun x i hi => ?_) fun x i hi y hy => ?_
  · obtain ⟨n, hn, rfl⟩ := inv x i hi
    have := ht n i hn
    show EvT t _ H ((F (n, i)).map enc).isSome
    rw [Option.isSome_map]
    exact this
  · obtain ⟨n, hn, rfl⟩ := inv x i hi
    have hy : (F (n, i)).map enc = some y := hy
    obtain ⟨b, hb, rfl⟩ := Option.map_eq_some_iff.mp hy
    exact he n i hn b hb
theorem el_cEm {β : Type} {k1 k2 : Nat} {vs : List Nat} (enc : β → V) (f : Int × Nat → β) (h : Ev tl σ H (.ref a)) (hx : SqL K H a (ns.map V.int)) (hz : ns.length ≤ 50000)
    (hw : ∀ x y, wipe (((wipe σ vs).set k1 (some x)).set k2 (some y)) vs = wipe σ vs)
    (he : ∀ n i, ns[i]? = some n → Ev te (((wipe σ vs).set k1 (some (.int (i : Nat)))).set k2 (some (.int n))) H (enc (f (n, i)))) :
    EvL (tLc (iEnum K (tCons tl tNil)) (g2 K k1 k2) tYes te vs) σ H ((ns.zipIdx.map f).map enc) := by
  have e : ns.zipIdx.map f = ns.zipIdx.filterMap fun n => some (f n) := (congrFun (List.filterMap_eq_map (f := f)) _).symm
  rw [e]
  exact el_cE enc _ h hx hz hw (fun _ _ _ => et_yes) fun n i hn y hy => by
    cases hy
    exact he n i hn
end
end Rh

namespace Rh
open PySem PySem.Spec PyProof.Rows L2 Evl

def tFrz (t : TE) : TE := fun σ H Q => t σ H fun x H1 => ∃ d u, x = .ref d ∧ H1 d = some u ∧ Mut (some u) ∧ ∀ od, Q x (upd H1 d (.frz od u))
theorem pe_frz {X : Cx} {e : Expr} {t : TE} (h : PE X e t) : PE X e (tFrz t) := by
  refine ⟨fun pins s σ H Q I hw => ?_⟩
  refine thn (h.run pins s σ H _ I hw) fun v s1 ⟨x, H1, I1, r, d, u, ex, hd, mu, q⟩ => ?_
  subst ex
  obtain ⟨od, I2⟩ := I1.lock hd mu
  exact ⟨.ref d, _, I2, r, q od⟩

def rGetL (K : PySem.W.Frag) : V → V → Hp → VK → Prop := fun o i H Q => ∃ p xs k v, o = .ref p ∧ i = .int (k : Nat) ∧ SqL K H p xs ∧ xs[k]? = some v ∧ Q v H
theorem get_list {X : Cx} : PGet X (rGetL X.K) := by
  intro pins s σ H o i ov iv Q I rx ry h
  obtain ⟨p, xs, k, z, rfl, rfl, hq, he, q⟩ := h
  cases rx
  obtain ⟨t, rfl⟩ := ry
  obtain ⟨its, r, pl, hz⟩ := I.list hq
  obtain ⟨w, ew, rw'⟩ := r.get he
  have hk : k < xs.length := (List.getElem?_eq_some_iff.mp he).1
  have hn := line63
  exact wpAny_getItem_list pl.isList (Int.natCast_nonneg k) (by omega) (by rw [Int.toNat_natCast]; simpa using ew) ⟨z, H, I, rw', q⟩

section
variable {K : PySem.W.Frag} {σ : L2.St} {H H' : Hp} {ta tb te tx tl : TE} {t u : TT} {x y z v : V} {i j : Int} {a : Addr} {ns ms : List Int} {D : Ends} {tu tw tz : TS} {g : TG}
/-- xs[i] = e -/
theorem q_setI {l : Addr} {k : Nat} (hl : H l = some (.lst (ns.map V.int))) (h : Ev te σ H (.int i)) (ho : Ev ta σ H (.ref l)) (hi : Ev tb σ H (.int (k : Int))) (hk : k < ns.length) (q : ∀ H1, Ex H H1 → tz D σ (upd H1 l (.lst ((ns.set k i).map V.int)))) :
    tSeq (tAsg te (gSub ta tb rSetL)) tz D σ H := q_setL hl h ho hi (by rw [List.length_map]; exact hk) fun H1 e => by
  rw [← List.map_set]
  exact q H1 e
/-- xs[i] -= e -/
theorem q_subI {l : Addr} {k : Nat} {n : Int} (hl : H l = some (.lst (ns.map V.int))) (ho : Ev ta σ H (.ref l)) (hi : Ev tb σ H (.int (k : Int))) (h : Ev te σ H (.int i)) (hk : ns[k]? = some n)
    (q : ∀ H1, Ex H H1 → tz D σ (upd H1 l (.lst ((ns.set k (n - i)).map V.int)))) : tSeq (tAugS ta tb te (rGetL K) (ipI fun i j => i - j) rSetL) tz D σ H :=
  ho H (Ex.refl H) _ fun H1 e1 => hi H1 e1 _ fun H2 e2 => ⟨l, ns.map V.int, k, .int n, rfl, rfl, sq_map ((e1.trans e2) _ _ hl), by rw [List.getElem?_map, hk]; rfl, h H2 (e1.trans e2) _ fun H3 e3 =>
    ⟨n, i, rfl, rfl, l, ns.map V.int, (k : Int), k, rfl, rfl, ((e1.trans e2).trans e3) _ _ hl, ixN_nat (by rw [List.length_map]; exact (List.getElem?_eq_some_iff.mp hk).1), by
      rw [← List.map_set]
      exact q H3 ((e1.trans e2).trans e3)⟩⟩
/-- d[k] = e, the key and what is put ints or truths -/
theorem q_dput {d : Addr} {kvs : List (Key × V)} (hd : H d = some (.dK kvs)) (hv : Ev te σ H v) (ho : Ev ta σ H (.ref d)) (hk : Ev tb σ H (.int i)) (hz : kvs.length < 100000) (q : ∀ H1, Ex H H1 → tz D σ (upd H1 d (.dK (putK kvs (.inl i) v)))) :
    tSeq (sDPut ta tb te) tz D σ H := hv H (Ex.refl H) _ fun H1 e1 => ho H1 e1 _ fun H2 e2 => hk H2 (e1.trans e2) _ fun H3 e3 =>
  ⟨d, _, rfl, DPut.k (k := Sum.inl i) (((e1.trans e2).trans e3) _ _ hd) (sz_lt hz), q H3 ((e1.trans e2).trans e3)⟩
theorem s_dput {d : Addr} {kvs : List (Key × V)} (hd : H d = some (.dK kvs)) (hv : Ev te σ H v) (ho : Ev ta σ H (.ref d)) (hk : Ev tb σ H (.int i)) (hz : kvs.length < 100000) (q : ∀ H1, Ex H H1 → D.nx σ (upd H1 d (.dK (putK kvs (.inl i) v)))) :
    sDPut ta tb te D σ H := hv H (Ex.refl H) _ fun H1 e1 => ho H1 e1 _ fun H2 e2 => hk H2 (e1.trans e2) _ fun H3 e3 =>
  ⟨d, _, rfl, DPut.k (k := Sum.inl i) (((e1.trans e2).trans e3) _ _ hd) (sz_lt hz), q H3 ((e1.trans e2).trans e3)⟩
theorem ev_dget {d : Addr} {kvs : List (Key × V)} (hd : H d = some (.dK kvs)) (ho : Ev ta σ H (.ref d)) (hk : Ev tb σ H (.int i)) (hx : Ev tx σ H x) : Ev (tDGet2 ta tb tx) σ H ((valV kvs (.inl i)).getD x) := fun H1 e Q q =>
  ho H1 e _ fun H2 e2 => ⟨d, rfl, .inl ⟨kvs, .inl (e2 _ _ (e _ _ hd))⟩, hk H2 (e.trans e2) _ fun H3 e3 => hx H3 ((e.trans e2).trans e3) _ fun H4 e4 =>
    ⟨_, DGet.k (k := Sum.inl i) ((((e.trans e2).trans e3).trans e4) _ _ hd), q H4 ((e2.trans e3).trans e4)⟩⟩
theorem ev_dnin {d : Addr} {kvs : List (Key × V)} (hd : H d = some (.dK kvs)) (hk : Ev tb σ H (.int i)) (ho : Ev ta σ H (.ref d)) : Ev (tDNotIn tb ta) σ H (.bl (!(valV kvs (.inl i)).isSome)) := fun H1 e Q q =>
  hk H1 e _ fun H2 e2 => ho H2 (e.trans e2) _ fun H3 e3 => ⟨d, _, rfl, DGet.k (k := Sum.inl i) (((e.trans e2).trans e3) _ _ hd), q H3 (e2.trans e3)⟩
theorem q_dnew {k : Nat} (q : ∀ p H1, H p = none → Ex H H1 → H1 p = some (.dK []) → tz D (σ.set k (some (.ref p))) H1) : tSeq (tAsg tDNewK (gName k)) tz D σ H := fun p hp => q p _ hp (Ex.new hp) upd_same
theorem q_lnew {k : Nat} (q : ∀ p H1, H p = none → Ex H H1 → H1 p = some (.lst []) → tz D (σ.set k (some (.ref p))) H1) : tSeq (tAsg (tLst tNil) (gName k)) tz D σ H := ⟨Nat.zero_le _, fun p hp => q p _ hp (Ex.new hp) upd_same⟩

theorem split_at {α : Type} {l : List α} {k : Nat} {x : α} (h : l[k]? = some x) : l = l.take k ++ x :: l.drop (k + 1) := by
  have hk := (List.getElem?_eq_some_iff.mp h).1
  have h3 := (List.getElem?_eq_some_iff.mp h).2
  rw [← h3, ← List.drop_eq_getElem_cons hk, List.take_append_drop]
theorem s_forP {k : Nat} (h : Ev tl σ H (.ref a)) (hx : SqL K H a (ns.map V.int)) (Pv : List Int → L2.St → Hp → Prop) (h0 : ∀ H1, Ex H H1 → Pv [] σ H1) (hl : ∀ pre σ' H', Pv pre σ' H' → SqL K H' a (ns.map V.int))
    (hs : ∀ pre n post σ' H', ns = pre ++ n :: post → Pv pre σ' H' → tu { D with nx := Pv (pre ++ [n]), ct := Pv (pre ++ [n]), bk := D.nx } (σ'.set k (some (.int n))) H') (hd : ∀ σ' H', Pv ns σ' H' → D.nx σ' H') : tFor (iList K tl) (gName k) tu D σ H := by
  refine s_forL h hx (fun i => Pv (ns.take i)) (by simpa using h0) (fun i σ' H' _ p => hl _ _ _ p) (fun i x σ' H' hi p => ?_) (fun σ' H' p => ?_)
  · rw [List.getElem?_map] at hi
    obtain ⟨n, h1, h2⟩ := Option.map_eq_some_iff.mp hi
    subst h2
    have e : ns.take (i + 1) = ns.take i ++ [n] := by rw [List.take_add_one, h1]; rfl
    rw [e]
    exact hs _ n _ _ _ (split_at h1) p
  · rw [List.length_map, List.take_length] at p
    exact hd _ _ p
theorem q_forP {k : Nat} (h : Ev tl σ H (.ref a)) (hx : SqL K H a (ns.map V.int)) (Pv : List Int → L2.St → Hp → Prop) (h0 : ∀ H1, Ex H H1 → Pv [] σ H1) (hl : ∀ pre σ' H', Pv pre σ' H' → SqL K H' a (ns.map V.int))
    (hs : ∀ pre n post σ' H', ns = pre ++ n :: post → Pv pre σ' H' → tu { D with nx := Pv (pre ++ [n]), ct := Pv (pre ++ [n]), bk := tz D } (σ'.set k (some (.int n))) H') (hd : ∀ σ' H', Pv ns σ' H' → tz D σ' H') : tSeq (tFor (iList K tl) (gName k) tu) tz D σ H :=
  s_forP (D := { D with nx := tz D }) h hx Pv h0 hl hs hd
/-- over a new list -/
theorem s_forN {k : Nat} (h : EvL tl σ H (ns.map V.int)) (Pv : Addr → List Int → L2.St → Hp → Prop) (h0 : ∀ p H1, H p = none → Ex H H1 → H1 p = some (.lst (ns.map V.int)) → Pv p [] σ H1) (hl : ∀ p pre σ' H', Pv p pre σ' H' → SqL K H' p (ns.map V.int))
    (hs : ∀ p pre n post σ' H', ns = pre ++ n :: post → Pv p pre σ' H' → tu { D with nx := Pv p (pre ++ [n]), ct := Pv p (pre ++ [n]), bk := D.nx } (σ'.set k (some (.int n))) H') (hd : ∀ p σ' H', Pv p ns σ' H' → D.nx σ' H') : tFor (iList K tl) (gName k) tu D σ H :=
  h H (Ex.refl H) _ fun p H1 hp e h1 => ⟨p, rfl, ⟨_, sq_map h1⟩, for_list (xs := ns.map V.int) (fun i => Pv p (ns.take i)) (by simpa using h0 p H1 hp e h1) (fun i σ' H' _ q => hl _ _ _ _ q) (fun i x σ' H' hi q => by
    rw [List.getElem?_map] at hi
    obtain ⟨n, h1, h2⟩ := Option.map_eq_some_iff.mp hi
    subst h2
    have e : ns.take (i + 1) = ns.take i ++ [n] := by rw [List.take_add_one, h1]; rfl
    rw [e]
    exact hs p _ n _ _ _ (split_at h1) q) (fun σ' H' q => by
    rw [List.length_map, List.take_length] at q
    exact hd _ _ _ q)⟩
theorem q_forN {k : Nat} (h : EvL tl σ H (ns.map V.int)) (Pv : Addr → List Int → L2.St → Hp → Prop) (h0 : ∀ p H1, H p = none → Ex H H1 → H1 p = some (.lst (ns.map V.int)) → Pv p [] σ H1) (hl : ∀ p pre σ' H', Pv p pre σ' H' → SqL K H' p (ns.map V.int))
    (hs : ∀ p pre n post σ' H', ns = pre ++ n :: post → Pv p pre σ' H' → tu { D with nx := Pv p (pre ++ [n]), ct := Pv p (pre ++ [n]), bk := tz D } (σ'.set k (some (.int n))) H') (hd : ∀ p σ' H', Pv p ns σ' H' → tz D σ' H') : tSeq (tFor (iList K tl) (gName k) tu) tz D σ H :=
  s_forN (D := { D with nx := tz D }) h Pv h0 hl hs hd
/-- for a, b in enumerate(xs) -/
theorem for_enum {xs : List V} (Pv : Nat → L2.St → Hp → Prop) (h0 : Pv 0 σ H) (hl : ∀ i σ H, i ≤ xs.length → Pv i σ H → SqL K H a xs)
    (hs : ∀ i x T σ H, xs[i]? = some x → Pv i σ H → H T = none → g (.ref T) σ (upd H T (.tup [.int (i : Nat), x])) fun σ2 H2 => tu { D with nx := Pv (i + 1), ct := Pv (i + 1), bk := D.nx } σ2 H2) (hd : ∀ σ H, Pv xs.length σ H → D.nx σ H) :
    ∃ W : Nat → Nat → L2.St → Hp → Prop, (∃ m, W 0 m σ H) ∧ ∀ i m σ H, W i m σ H →
      ((Ite K a).stop i H ∧ D.nx σ H) ∨ ((Ite K a).go i H ∧ ∃ N : L2.St → Hp → Prop, (∀ σ' H', N σ' H' → ∃ m', m' < m ∧ W (i + 1) m' σ' H') ∧ ∀ x H', (Ite K a).yld i H x H' → g x σ H' fun σ2 H2 => tu { D with nx := N, ct := N, bk := D.nx } σ2 H2) := by
  refine ⟨fun i m σ H => m = xs.length - i ∧ i ≤ xs.length ∧ Pv i σ H, ⟨xs.length, by simp, Nat.zero_le _, h0⟩, ?_⟩
  rintro i m σ H ⟨rfl, hi, p⟩
  have q := hl i σ H hi p
  by_cases hlt : i < xs.length
  · refine .inr ⟨⟨xs, xs[i], q, by simp [hlt]⟩, Pv (i + 1), fun σ' H' p' => ⟨xs.length - (i + 1), by omega, rfl, hlt, p'⟩, fun x H' y => ?_⟩
    obtain ⟨T, x, rfl, nT, rfl, y⟩ := y
    exact hs i x T σ _ (y xs q) p nT
  · have e : i = xs.length := by omega
    subst e
    exact .inl ⟨⟨xs, q, Nat.le_refl _⟩, hd σ H p⟩
theorem s_forE {k1 k2 : Nat} (h : Ev tl σ H (.ref a)) (hx : SqL K H a (ns.map V.int)) (Pv : List Int → L2.St → Hp → Prop) (h0 : ∀ H1, Ex H H1 → Pv [] σ H1) (hl : ∀ pre σ' H', Pv pre σ' H' → SqL K H' a (ns.map V.int))
    (hs : ∀ pre n post T σ' H', ns = pre ++ n :: post → Pv pre σ' H' → H' T = none → tu { D with nx := Pv (pre ++ [n]), ct := Pv (pre ++ [n]), bk := D.nx } ((σ'.set k1 (some (.int (pre.length : Nat)))).set k2 (some (.int n))) (upd H' T (.tup [.int (pre.length : Nat), .int n]))) (hd : ∀ σ' H', Pv ns σ' H' → D.nx σ' H') :
    tFor (iEnum K (tCons tl tNil)) (g2 K k1 k2) tu D σ H :=
  h H (Ex.refl H) _ fun H1 e => ⟨a, _, rfl, ex_l e hx, for_enum (xs := ns.map V.int) (fun i => Pv (ns.take i)) (by simpa using h0 H1 e) (fun i σ' H' _ q => hl _ _ _ q) (fun i x T σ' H' hi q hT => by
    rw [List.getElem?_map] at hi
    obtain ⟨n, h1, h2⟩ := Option.map_eq_some_iff.mp hi
    subst h2
    have e : ns.take (i + 1) = ns.take i ++ [n] := by rw [List.take_add_one, h1]; rfl
    have hlt := (List.getElem?_eq_some_iff.mp h1).1
    have el : (ns.take i).length = i := by rw [List.length_take]; omega
    rw [e]
    have := hs _ n _ T _ _ (split_at h1) q hT
    rw [el] at this
    exact g2_go upd_same this) (fun σ' H' q => by
    rw [List.length_map, List.take_length] at q
    exact hd _ _ q)⟩
theorem q_forE {k1 k2 : Nat} (h : Ev tl σ H (.ref a)) (hx : SqL K H a (ns.map V.int)) (Pv : List Int → L2.St → Hp → Prop) (h0 : ∀ H1, Ex H H1 → Pv [] σ H1) (hl : ∀ pre σ' H', Pv pre σ' H' → SqL K H' a (ns.map V.int))
    (hs : ∀ pre n post T σ' H', ns = pre ++ n :: post → Pv pre σ' H' → H' T = none → tu { D with nx := Pv (pre ++ [n]), ct := Pv (pre ++ [n]), bk := tz D } ((σ'.set k1 (some (.int (pre.length : Nat)))).set k2 (some (.int n))) (upd H' T (.tup [.int (pre.length : Nat), .int n]))) (hd : ∀ σ' H', Pv ns σ' H' → tz D σ' H') :
    tSeq (tFor (iEnum K (tCons tl tNil)) (g2 K k1 k2) tu) tz D σ H := s_forE (D := { D with nx := tz D }) h hx Pv h0 hl hs hd
end
end Rh

namespace Rh
open PySem PySem.Spec PyProof.Rows L2 Evl

section
variable {K : PySem.W.Frag} {σ : L2.St} {H H' : Hp} {ta tb te tx tl : TE} {x y z v : V} {i j : Int} {a : Addr} {ns ms : List Int}
theorem tyX_L {xs : List V} (h : SqL K H a xs) : TyX K H (.ref a) (.type "list") := by
  rcases h with (h | ⟨o, h⟩) | ⟨o, its, n, h, c, _⟩
  · exact .base (.lst h)
  · exact .base (.frz h)
  · exact .kList h c
theorem ev_isiI {T : String} {b : Bool} (h : Ev ta σ H (.int i)) (hk : kitB "int" T = some b) : Ev (tCB (rIsi K) (tCons ta (tCons (tC (.ty T)) tNil))) σ H (.bl b) := fun H1 e Q q =>
  h H1 e _ fun H2 e2 => ⟨_, _, _, _, b, rfl, .ty T, .base (.int i), kit_ty hk, q H2 e2⟩
theorem ev_isiB {T : String} {b c : Bool} (h : Ev ta σ H (.bl c)) (hk : kitB "bool" T = some b) : Ev (tCB (rIsi K) (tCons ta (tCons (tC (.ty T)) tNil))) σ H (.bl b) := fun H1 e Q q =>
  h H1 e _ fun H2 e2 => ⟨_, _, _, _, b, rfl, .ty T, .base (.bl c), kit_ty hk, q H2 e2⟩
theorem ev_isiL {T : String} {b : Bool} {xs : List V} (h : Ev ta σ H (.ref a)) (hs : SqL K H a xs) (hk : kitB "list" T = some b) : Ev (tCB (rIsi K) (tCons ta (tCons (tC (.ty T)) tNil))) σ H (.bl b) := fun H1 e Q q =>
  h H1 e _ fun H2 e2 => ⟨_, _, _, _, b, rfl, .ty T, tyX_L (ex_l (e.trans e2) hs), kit_ty hk, q H2 e2⟩
end

theorem marks_comp_from (n : Int) : ∀ (ns : List Int) (k : Nat), (k : Int) + ns.length = n → ((ns.zipIdx k).map fun p => p.1 + n - 1 - (p.2 : Int)) = marksOf ns
  | [], _, _ => rfl
  | x :: r, k, h => by
    rw [List.length_cons] at h
    rw [List.zipIdx_cons, List.map_cons, marks_comp_from n r (k + 1) (by omega)]
    show (x + n - 1 - (k : Int)) :: marksOf r = (x + (r.length : Int)) :: marksOf r
    congr 1
    omega
theorem marks_comp (ns : List Int) : (ns.zipIdx.map fun p => p.1 + (ns.length : Int) - 1 - (p.2 : Int)) = marksOf ns := marks_comp_from _ ns 0 (by omega)
theorem rows_comp_from (n : Int) : ∀ (ns : List Int) (k : Nat), (k : Int) + ns.length = n → ((ns.zipIdx k).map fun p => p.1 - n + 1 + (p.2 : Int)) = rowsOf ns
  | [], _, _ => rfl
  | x :: r, k, h => by
    rw [List.length_cons] at h
    rw [List.zipIdx_cons, List.map_cons, rows_comp_from n r (k + 1) (by omega)]
    show (x - n + 1 + (k : Int)) :: rowsOf r = (x - (r.length : Int)) :: rowsOf r
    congr 1
    omega
theorem rows_comp (ns : List Int) : (ns.zipIdx.map fun p => p.1 - (ns.length : Int) + 1 + (p.2 : Int)) = rowsOf ns := rows_comp_from _ ns 0 (by omega)
theorem pos_comp (ns : List Int) : (ns.filterMap fun n => if 0 < n then some n else none) = ns.filter fun x => decide (0 < x) := by
  induction ns with
  | nil => rfl
  | cons x r ih =>
    by_cases h : 0 < x
    · simp [h, ih]
    · simp [h, ih]
theorem rims_comp (M : List Int) (L : Int) : (M.zipIdx.filterMap fun p => if (decide (L ≤ p.1) && !decide (p.1 - L ∈ M)) = true then some ((p.2 : Nat) : Int) else none) = rimsM M L := by
  unfold rimsM
  congr 1
  funext p
  by_cases h : L ≤ p.1 ∧ p.1 - L ∉ M
  · rw [if_pos h, if_pos (by simp [h.1, h.2])]
  · rw [if_neg h, if_neg (by
      simp only [Bool.and_eq_true, decide_eq_true_eq, Bool.not_eq_true', decide_eq_false_iff_not]
      exact h)]

theorem nodup_putK {kvs : List (Key × V)} {k : Key} {v : V} (h : (kvs.map (·.1)).Nodup) : ((putK kvs k v).map (·.1)).Nodup := by
  unfold putK
  split
  · rw [List.map_map]
    have e : ((fun kv : Key × V => kv.1) ∘ fun kv => if kv.1 = k then (kv.1, v) else kv) = fun kv => kv.1 := by
      funext kv
      show (if kv.1 = k then (kv.1, v) else kv).1 = kv.1
      split <;> rfl
    rw [e]
    exact h
  · rename_i hn
    rw [List.map_append, List.nodup_append]
    refine ⟨h, by simp, fun a ha b hb e => hn ?_⟩
    subst e
    obtain ⟨kv, hkv, rfl⟩ := List.mem_map.mp ha
    have : kv.1 = k := by simpa using hb
    exact List.any_eq_true.mpr ⟨kv, hkv, decide_eq_true this⟩
theorem valV_mem {kvs : List (Key × V)} {k : Key} {v : V} (hn : (kvs.map (·.1)).Nodup) : (k, v) ∈ kvs ↔ valV kvs k = some v := by
  induction kvs with
  | nil => simp [valV]
  | cons p r ih =>
    obtain ⟨h1, h2⟩ := List.nodup_cons.mp hn
    by_cases e : p.1 = k
    · rw [valV_pos e]
      constructor
      · intro h
        rcases List.mem_cons.mp h with q | q
        · rw [← q]
        · exact absurd (List.mem_map.mpr ⟨_, q, e.symm⟩) h1
      · intro h
        have : p = (k, v) := Prod.ext e (Option.some.inj h)
        rw [this]
        exact List.mem_cons_self
    · rw [valV_neg e, ← ih h2]
      constructor
      · intro h
        rcases List.mem_cons.mp h with q | q
        · exact absurd (congrArg Prod.fst q).symm e
        · exact q
      · exact fun h => List.mem_cons_of_mem _ h
/-- a dict of which marks are there -/
def DSeen (kvs : List (Key × V)) (M : List Int) : Prop := (∀ m : Int, (valV kvs (.inl m)).isSome = decide (m ∈ M)) ∧ kvs.length ≤ M.length
theorem DSeen.nil : DSeen [] [] := ⟨fun m => by simp [valV], Nat.le_refl _⟩
theorem DSeen.put {kvs : List (Key × V)} {M : List Int} {m : Int} {v : V} (d : DSeen kvs M) : DSeen (putK kvs (.inl m) v) (M ++ [m]) := by
  refine ⟨fun n => ?_, ?_⟩
  · rw [valV_put]
    by_cases e : n = m
    · subst e
      rw [if_pos rfl]
      simp
    · rw [if_neg (fun q => e (Sum.inl.inj q)), d.1]
      simp [e]
  · have := length_putK kvs (.inl m : Key) v
    rw [List.length_append, List.length_singleton]
    have := d.2
    omega
/-- a dict of the rests, each with how many have it -/
structure DTal (kvs : List (Key × V)) (M : List Int) (L : Int) : Prop where
  int : ∀ r : Int, valV kvs (.inl r) = if cnt M L r = 0 then none else some (.int ((cnt M L r : Nat) : Int))
  str : ∀ z : Str, valV kvs (.inr z) = none
  nd : (kvs.map (·.1)).Nodup
  len : kvs.length ≤ M.length
theorem DTal.nil (L : Int) : DTal [] [] L := ⟨fun r => by simp [valV, cnt_nil], fun _ => rfl, List.nodup_nil, Nat.le_refl _⟩
theorem DTal.get {kvs : List (Key × V)} {M : List Int} {L : Int} (d : DTal kvs M L) (r : Int) : (valV kvs (.inl r)).getD (.int 0) = .int ((cnt M L r : Nat) : Int) := by
  rw [d.int]
  split
  · rename_i h
    rw [h]
    rfl
  · rfl
theorem DTal.put {kvs : List (Key × V)} {M : List Int} {L m : Int} (d : DTal kvs M L) : DTal (putK kvs (.inl (m % L)) (.int (((cnt M L (m % L) : Nat) : Int) + 1))) (M ++ [m]) L := by
  refine ⟨fun r => ?_, fun z => ?_, nodup_putK d.nd, ?_⟩
  · rw [valV_put, cnt_append, cnt_cons, cnt_nil, Nat.zero_add]
    by_cases e : r = m % L
    · subst e
      rw [if_pos rfl, if_pos rfl, if_neg (by omega)]
      rfl
    · have e2 : ¬ m % L = r := fun q => e q.symm
      rw [if_neg (fun q => e (Sum.inl.inj q)), d.int]
      simp only [if_neg e2, Nat.add_zero]
  · rw [valV_put, if_neg (fun q => nomatch q)]
    exact d.str z
  · have := length_putK kvs (.inl (m % L) : Key) (V.int (((cnt M L (m % L) : Nat) : Int) + 1))
    rw [List.length_append, List.length_singleton]
    have := d.len
    omega
def dT (T : List (Int × Nat)) : List (Key × V) := T.map fun p => (Sum.inl p.1, V.int (p.2 : Nat))
theorem DTal.tally {kvs : List (Key × V)} {M : List Int} {L : Int} (d : DTal kvs M L) : ∃ T, kvs = dT T ∧ Tally T M L := by
  have h : ∀ p ∈ kvs, ∃ q : Int × Nat, p = (Sum.inl q.1, V.int (q.2 : Nat)) ∧ q.2 = cnt M L q.1 ∧ 0 < q.2 := by
    rintro ⟨k, v⟩ hp
    have e := (valV_mem d.nd).mp hp
    cases k with
    | inl r =>
      rw [d.int] at e
      split at e
      · cases e
      · rename_i hc
        cases e
        exact ⟨(r, cnt M L r), rfl, rfl, by omega⟩
    | inr z =>
      rw [d.str] at e
      cases e
  have ex : ∃ T, kvs = dT T := by
    have : ∀ l : List (Key × V), (∀ p ∈ l, ∃ q : Int × Nat, p = (Sum.inl q.1, V.int (q.2 : Nat)) ∧ q.2 = cnt M L q.1 ∧ 0 < q.2) → ∃ T, l = dT T := by
      intro l
      induction l with
      | nil => intro _; exact ⟨[], rfl⟩
      | cons p l ih =>
        intro hl
        obtain ⟨T, hT⟩ := ih fun x hx => hl x (List.mem_cons_of_mem _ hx)
        obtain ⟨q, hq, _⟩ := hl p List.mem_cons_self
        exact ⟨q :: T, by rw [hq, hT]; rfl⟩
    exact this kvs h
  obtain ⟨T, rfl⟩ := ex
  refine ⟨T, rfl, ?_, fun r c => ?_⟩
  · have e := d.nd
    unfold dT at e
    rw [List.map_map] at e
    have e2 : ((fun kv : Key × V => kv.1) ∘ fun p : Int × Nat => ((Sum.inl p.1 : Key), V.int (p.2 : Nat))) = (fun r : Int => (Sum.inl r : Key)) ∘ fun p : Int × Nat => p.1 := rfl
    rw [e2, ← List.map_map] at e
    rw [List.nodup_iff_pairwise_ne, List.pairwise_map] at e
    exact List.nodup_iff_pairwise_ne.mpr (List.Pairwise.imp (fun h q => h (by rw [q])) e)
  · constructor
    · intro hm
      obtain ⟨q, h1, h2, h3⟩ := h (Sum.inl r, V.int (c : Nat)) (List.mem_map.mpr ⟨(r, c), hm, rfl⟩)
      have e1 : r = q.1 := Sum.inl.inj (congrArg Prod.fst h1)
      have e2 : ((c : Nat) : Int) = (q.2 : Nat) := V.int.inj (congrArg Prod.snd h1)
      subst e1
      have : c = q.2 := by omega
      exact ⟨by omega, by omega⟩
    · rintro ⟨rfl, hc⟩
      have e : valV (dT T) (.inl r) = some (.int ((cnt M L r : Nat) : Int)) := by rw [d.int, if_neg (by omega)]
      have hm := (valV_mem d.nd).mpr e
      obtain ⟨p, hp, e⟩ := List.mem_map.mp hm
      have e1 : p.1 = r := Sum.inl.inj (congrArg Prod.fst e)
      have e2 : ((p.2 : Nat) : Int) = (cnt M L r : Nat) := V.int.inj (congrArg Prod.snd e)
      have : p = (r, cnt M L r) := Prod.ext e1 (by show p.2 = _; omega)
      rw [← this]
      exact hp
end Rh

namespace Rh
open PySem PySem.Spec PyProof.Rows L2 Evl
section
variable (K : PySem.W.Frag)
abbrev Len (ns : List Int) : Prop := ns.length ≤ 30000
def sp_is_whole : Sp := spi (fun _ => True) fun _ => RetV (.bl true)
def sp_is_heap : Sp := spL K (fun ns => IsHeap ns ∧ Len ns) fun _ => RetV (.bl true)
def sp_check_heap : Sp := spL K (fun ns => IsHeap ns ∧ Len ns) fun _ => RetV .non
def sp_check_length : Sp := spi (fun i => 1 ≤ i) fun _ => RetV .non
def sp_marks_of : Sp := spL K Len fun ns => RI (marksOf ns)
def sp_heap_of : Sp := spL K Len fun ns => RI (heapOf ns)
def sp_marks_by : Sp := spL K (fun ns => IsHeap ns ∧ Len ns) fun ns => RI (marksOf ns)
def sp_squares : Sp := spL K (fun ns => IsHeap ns ∧ Len ns) fun ns => RetV (.int ns.sum)
def sp_rims_of : Sp := spLi K (fun ns _ => Len ns) fun ns L => RI (rimsH ns L)
def sp_rims : Sp := spLi K (fun ns L => (IsHeap ns ∧ Len ns) ∧ 1 ≤ L) fun ns L => RI (rimsH ns L)
def sp_behind : Sp := spLii K (fun ns _ r => Len ns ∧ ∃ i : Nat, r = (i : Int) ∧ i < ns.length) fun ns L r => RI (behindOf ns L r.toNat)
def sp_taken : Sp := spLii K (fun ns L r => (IsHeap ns ∧ Len ns) ∧ 1 ≤ L ∧ r ∈ rimsH ns L) fun ns L r => RI (behindOf ns L r.toNat)
def sp_counts_of : Sp := fun vs H Q _ => ∃ (a : Addr) (ns : List Int) (L : Int), vs = [.ref a, .int L] ∧ SqL K H a (ns.map V.int) ∧ (Len ns ∧ 0 < L) ∧ ∀ p kvs H2, H p = none → Ex H H2 → H2 p = some (.dK kvs) → DTal kvs ns L → Q (.ref p) H2
def sp_core : Sp := spLi K (fun ns L => (IsHeap ns ∧ Len ns) ∧ 1 ≤ L) fun ns L => RI (coreOf ns L)
def sp_rims_in : Sp := spLi K (fun ns L => (IsHeap ns ∧ Len ns) ∧ 1 ≤ L ∧ L.natAbs.log2 < 9000) fun ns L => RetV (.int (rimsIn ns L))
end
end Rh

namespace Rh
open PySem PySem.Spec PyProof.Rows L2 Evl
section
variable {K : PySem.W.Frag} {σ : L2.St} {H H' : Hp} {ta tb te tx tl : TE} {t u : TT} {x y z v : V} {i j : Int} {a : Addr} {ns ms : List Int} {D : Ends} {tu tw tz : TS} {g : TG} {tg : TA}
theorem el_sortedR (h : Ev ta σ H (.ref a)) (hs : SqL K H a (ns.map V.int)) : EvL (tCKw (rSortedKw K true [.bl true]) (tCons ta tNil) (tCons (tC (.bl true)) tNil)) σ H ((sortD ns).map V.int) := fun H1 e Q q =>
  h H1 e _ fun H2 e2 => ⟨a, ns, rfl, rfl, ex_l (e.trans e2) hs, fun ns' p hp ho hn => by
    have e3 : ns' = sortD ns := sortD_eq hp ho
    subst e3
    exact q p _ (fresh_back e2 hn) (e2.trans (Ex.new hn)) upd_same⟩
theorem el_sortedN (h : EvL ta σ H (ns.map V.int)) : EvL (tCKw (rSortedKw K true [.bl true]) (tCons ta tNil) (tCons (tC (.bl true)) tNil)) σ H ((sortD ns).map V.int) := fun H1 e Q q =>
  h H1 e _ fun a H2 _ e2 h2 => ⟨a, ns, rfl, rfl, sq_map h2, fun ns' p hp ho hn => by
    have e3 : ns' = sortD ns := sortD_eq hp ho
    subst e3
    exact q p _ (fresh_back e2 hn) (e2.trans (Ex.new hn)) upd_same⟩
theorem ra_fm {β : Type} (enc : β → V) (f : Nat → β) (n : Nat) : ((List.range n).map f).map enc = (List.range n).filterMap fun k => some (enc (f k)) := by
  rw [List.map_map]
  exact (congrFun (List.filterMap_eq_map (f := fun k => enc (f k))) _).symm
theorem range_at {n k : Nat} (h : k < n) : (List.range n)[k]? = some k := by
  rw [List.getElem?_range h]
/-- over range(lo, hi) -/
theorem el_cR2 {β : Type} {k : Nat} {vs : List Nat} {lo hi : Int} (enc : β → V) (f : Nat → β) (h : EvA tg σ H [.int lo, .int hi]) (h1 : -20000 ≤ lo ∧ lo ≤ 50000 ∧ -50000 ≤ hi ∧ hi ≤ 50000) (hw : ∀ x, wipe ((wipe σ vs).set k (some x)) vs = wipe σ vs)
    (he : ∀ i : Nat, lo + (i : Int) < hi → Ev te ((wipe σ vs).set k (some (.int (lo + (i : Int))))) H (enc (f i))) :
    EvL (tLc (iRng2 tg) (gName k) tYes te vs) σ H (((List.range (hi - lo).toNat).map f).map enc) := fun H0 e Q q => h H0 e _ fun H1 e1 => ⟨lo, hi, rfl, ⟨by omega, by omega, by omega, by omega⟩, fun Dl hD => by
  rw [ra_fm] at q
  exact lc_range (lo := lo) (n := (hi - lo).toNat) (fun i H' => Cg H1 Dl (((List.range (hi - lo).toNat).take i).filterMap fun k => some (enc (f k))) H') (Cg.start hD) (fun i H' hi' p => ⟨hw _, by
    rw [take_fm _ (range_at hi')]
    exact cg_turn p (by have := fm_len (List.range (hi - lo).toNat) (fun k => some (enc (f k))) i; rw [List.length_range] at this; omega) et_yes fun y hy => by
      cases hy
      exact (he i (by omega)).mono ((e.trans e1).trans p.2.1)⟩) (fun H' p => by
    have hl : (List.range (hi - lo).toNat).take (hi - lo).toNat = List.range (hi - lo).toNat := List.take_of_length_le (by rw [List.length_range]; exact Nat.le_refl _)
    rw [hl] at p
    exact q Dl H' (fresh_back e1 p.1) (e1.trans p.2.1) p.2.2)⟩
/-- over range(n) -/
theorem el_cR1 {β : Type} {k : Nat} {vs : List Nat} {hi : Int} (enc : β → V) (f : Nat → β) (h : EvA tg σ H [.int hi]) (h1 : -50000 ≤ hi ∧ hi ≤ 50000) (hw : ∀ x, wipe ((wipe σ vs).set k (some x)) vs = wipe σ vs)
    (he : ∀ i : Nat, (i : Int) < hi → Ev te ((wipe σ vs).set k (some (.int (i : Int)))) H (enc (f i))) :
    EvL (tLc (iRng1 tg) (gName k) tYes te vs) σ H (((List.range hi.toNat).map f).map enc) := fun H0 e Q q => h H0 e _ fun H1 e1 => ⟨hi, rfl, by omega, by omega, fun Dl hD => by
  rw [ra_fm] at q
  exact lc_range (lo := 0) (n := hi.toNat) (fun i H' => Cg H1 Dl (((List.range hi.toNat).take i).filterMap fun k => some (enc (f k))) H') (Cg.start hD) (fun i H' hi' p => ⟨hw _, by
    rw [take_fm _ (range_at hi')]
    have e0 : (0 : Int) + (i : Int) = (i : Int) := Int.zero_add _
    rw [e0]
    exact cg_turn p (by have := fm_len (List.range hi.toNat) (fun k => some (enc (f k))) i; rw [List.length_range] at this; omega) et_yes fun y hy => by
      cases hy
      exact (he i (by omega)).mono ((e.trans e1).trans p.2.1)⟩) (fun H' p => by
    have hl : (List.range hi.toNat).take hi.toNat = List.range hi.toNat := List.take_of_length_le (by rw [List.length_range]; exact Nat.le_refl _)
    rw [hl] at p
    exact q Dl H' (fresh_back e1 p.1) (e1.trans p.2.1) p.2.2)⟩

def EvD (te : TE) (σ : L2.St) (H : Hp) (Good : List (Key × V) → Prop) : Prop := ∀ H1, Ex H H1 → ∀ Q : VK, (∀ p kvs H2, H1 p = none → Ex H1 H2 → H2 p = some (.dK kvs) → Good kvs → Q (.ref p) H2) → te σ H1 Q
theorem EvD.mono {Good : List (Key × V) → Prop} (e : Ex H H') (h : EvD te σ H Good) : EvD te σ H' Good := fun H1 a Q q => h H1 (e.trans a) Q q
/-- it is locked, what stood before stands -/
theorem EvD.frz {Good : List (Key × V) → Prop} (h : EvD te σ H Good) {Q : VK} (q : ∀ d od kvs H2, Ex H H2 → H2 d = some (.frz od (.dK kvs)) → Good kvs → Q (.ref d) H2) : tFrz te σ H Q :=
  h H (Ex.refl H) _ fun p kvs H2 hp e h2 gd => ⟨p, .dK kvs, rfl, h2, trivial, fun od => q p od kvs _ (e.mut hp) upd_same gd⟩
theorem dT_at {T : List (Int × Nat)} {k : Nat} {ky : Key} {v : V} (h : (dT T)[k]? = some (ky, v)) : ∃ r c, T[k]? = some (r, c) ∧ ky = Sum.inl r ∧ v = .int ((c : Nat) : Int) := by
  unfold dT at h
  rw [List.getElem?_map] at h
  obtain ⟨p, h1, h2⟩ := Option.map_eq_some_iff.mp h
  exact ⟨p.1, p.2, h1, (congrArg Prod.fst h2).symm, (congrArg Prod.snd h2).symm⟩
theorem dT_len (T : List (Int × Nat)) : (dT T).length = T.length := by simp [dT]
/-- for r, c in d.items() -/
theorem q_forItems {k1 k2 : Nat} {M : List Int} {L : Int} (h : EvD te σ H fun kvs => DTal kvs M L) (Pv : Addr → Obj → List (Int × Nat) → List (Int × Nat) → L2.St → Hp → Prop)
    (h0 : ∀ d od T H1, Ex H H1 → Tally T M L → H1 d = some (.frz od (.dK (dT T))) → Pv d od T [] σ H1) (hl : ∀ d od T pre σ' H', Pv d od T pre σ' H' → H' d = some (.frz od (.dK (dT T))))
    (hs : ∀ d od T pre r c post A σ' H', T = pre ++ (r, c) :: post → Tally T M L → Pv d od T pre σ' H' → H' A = none →
      tu { D with nx := Pv d od T (pre ++ [(r, c)]), ct := Pv d od T (pre ++ [(r, c)]), bk := tz D } ((σ'.set k1 (some (.int r))).set k2 (some (.int ((c : Nat) : Int)))) (upd H' A (.tup [.int r, .int ((c : Nat) : Int)])))
    (hd : ∀ d od T σ' H', Tally T M L → Pv d od T T σ' H' → tz D σ' H') : tSeq (tFor (iItems (tFrz te)) (g2 K k1 k2) tu) tz D σ H := by
  unfold tSeq tFor iItems
  dsimp only
  refine h.frz fun d od kvs H2 e2 h2 gd => ?_
  obtain ⟨T, rfl, tl⟩ := gd.tally
  refine ⟨d, od, _, rfl, h2, fun i m σ' H' => m = T.length - i ∧ i ≤ T.length ∧ Pv d od T (T.take i) σ' H', ⟨T.length, by simp, Nat.zero_le _, by simpa using h0 d od T H2 e2 tl h2⟩, ?_⟩
  rintro i m σ' H' ⟨rfl, hi, p⟩
  have q := hl d od T _ _ _ p
  by_cases hlt : i < T.length
  · refine .inr ⟨⟨q, by rw [dT_len]; exact hlt⟩, Pv d od T (T.take (i + 1)), fun σ' H' p' => ⟨T.length - (i + 1), by omega, rfl, hlt, p'⟩, fun x H3 y => ?_⟩
    obtain ⟨A, ky, v, hk, rfl, hA, rfl⟩ := y
    obtain ⟨r, c, h3, rfl, rfl⟩ := dT_at hk
    have e : T.take (i + 1) = T.take i ++ [(r, c)] := by rw [List.take_add_one, h3]; rfl
    rw [e]
    exact g2_go upd_same (hs d od T _ r c _ A _ _ (split_at h3) tl p hA)
  · have e : i = T.length := by omega
    subst e
    rw [List.take_length] at p
    exact .inl ⟨⟨q, by rw [dT_len]; exact Nat.le_refl _⟩, hd d od T _ _ tl p⟩
/-- sum([f(c) for c in d.values()]) -/
theorem ev_sumVals {k : Nat} {vs : List Nat} {M : List Int} {L X : Int} (h : EvD te σ H fun kvs => DTal kvs M L) (hM : M.length ≤ 50000) (hw : ∀ x, wipe ((wipe σ vs).set k (some x)) vs = wipe σ vs)
    (he : ∀ c : Nat, c ≤ M.length → Ev tx ((wipe σ vs).set k (some (.int ((c : Nat) : Int)))) H (.int (tri c))) (hX : ∀ T, Tally T M L → lowSum T = X) :
    Ev (tCB (rSum K) (tCons (tLc (iVals (tFrz te)) (gName k) tYes tx vs) tNil)) σ H (.int X) := fun H0 e Q q => by
  unfold tCB tCons tLc iVals
  dsimp only
  refine (h.mono e).frz fun d od kvs H1 e1 h1 gd => ⟨d, od, kvs, rfl, h1, fun Dl hD => ?_⟩
  obtain ⟨T, rfl, tl⟩ := gd.tally
  have hlen : T.length ≤ M.length := by have := gd.len; rw [dT_len] at this; exact this
  refine ⟨fun i m H' => m = T.length - i ∧ i ≤ T.length ∧ Cg H1 Dl ((T.take i).filterMap fun p => some (V.int (tri p.2))) H', ⟨T.length, by simp, Nat.zero_le _, Cg.start hD⟩, ?_⟩
  rintro i m H' ⟨rfl, hi, p⟩
  have q' : H' d = some (.frz od (.dK (dT T))) := p.2.1 _ _ h1
  by_cases hlt : i < T.length
  · refine .inr ⟨⟨q', by rw [dT_len]; exact hlt⟩, fun H' => Cg H1 Dl ((T.take (i + 1)).filterMap fun p => some (V.int (tri p.2))) H', fun H' p' => ⟨T.length - (i + 1), by omega, rfl, hlt, p'⟩, fun x H3 y => ?_⟩
    obtain ⟨rfl, ky, hk⟩ := y
    obtain ⟨r, c, h3, rfl, rfl⟩ := dT_at hk
    refine ⟨hw _, ?_⟩
    rw [take_fm _ h3]
    have hc : c ≤ M.length := by
      obtain ⟨h4, _⟩ := (tl.mem r c).mp (List.mem_of_getElem? h3)
      rw [h4]
      exact cnt_le _ _ _
    exact cg_turn p (by have := fm_len T (fun p => some (V.int (tri p.2))) i; omega) et_yes fun y hy => by
      cases hy
      exact (he c hc).mono ((e.trans e1).trans p.2.1)
  · have e3 : i = T.length := by omega
    subst e3
    rw [List.take_length] at p
    refine .inl ⟨⟨q', by rw [dT_len]; exact Nat.le_refl _⟩, Dl, T.map fun p => tri p.2, rfl, ?_, ?_⟩
    · have e4 : (T.filterMap fun p => some (V.int (tri p.2))) = (T.map fun p => tri p.2).map V.int := by
        rw [List.map_map]
        exact congrFun (List.filterMap_eq_map (f := fun p : Int × Nat => V.int (tri p.2))) _
      rw [← e4]
      exact .inl (.inl p.2.2)
    · have := hX T tl
      unfold lowSum at this
      rw [this]
      exact q _ (e1.trans p.2.1)
/-- found.extend(a new list) -/
theorem s_extN {l : Addr} (hl : H l = some (.lst (ns.map V.int))) (ha : Ev ta σ H (.ref l)) (h : EvL te σ H (ms.map V.int)) (hz : ns.length + ms.length ≤ 100000) (q : ∀ H1, Ex H H1 → D.nx σ (upd H1 l (.lst ((ns ++ ms).map V.int)))) :
    tDrop (tBM K "list" rExtend ta (tCons te tNil)) D σ H := ha H (Ex.refl H) _ fun H1 e1 => ⟨Or.inl ⟨rfl, _, sq_of (e1 l _ hl)⟩, h H1 e1 _ fun p H2 hp e2 h2 =>
  ⟨l, p, _, _, rfl, rfl, e2 l _ (e1 l _ hl), h2, by rw [List.length_map, List.length_map]; exact sz_of hz, by
    rw [← List.map_append]
    exact q H2 (e1.trans e2)⟩⟩
/-- xs.append(n) -/
theorem s_appI {l : Addr} (hl : H l = some (.lst (ns.map V.int))) (ha : Ev ta σ H (.ref l)) (h : Ev te σ H (.int i)) (hz : ns.length < 100000) (q : ∀ H1, Ex H H1 → D.nx σ (upd H1 l (.lst ((ns ++ [i]).map V.int)))) :
    tDrop (tBM K "list" rAppend ta (tCons te tNil)) D σ H := s_app hl ha h (by rw [List.length_map]; exact hz) fun H1 e => by
  have := q H1 e
  rw [List.map_append] at this
  exact this
theorem q_appI {l : Addr} (hl : H l = some (.lst (ns.map V.int))) (ha : Ev ta σ H (.ref l)) (h : Ev te σ H (.int i)) (hz : ns.length < 100000) (q : ∀ H1, Ex H H1 → tz D σ (upd H1 l (.lst ((ns ++ [i]).map V.int)))) :
    tSeq (tDrop (tBM K "list" rAppend ta (tCons te tNil))) tz D σ H := s_appI (D := { D with nx := tz D }) hl ha h hz q
/-- a call that gives None, alone as a statement -/
theorem q_chk (h : Ev te σ H v) (q : ∀ H1, Ex H H1 → tz D σ H1) : tSeq (tDrop te) tz D σ H := q_drop h q
/-- n not in a new list of ints -/
theorem inV_int (n : Int) : ∀ ms : List Int, inV (.int n) (ms.map V.int) = decide (n ∈ ms)
  | [] => by simp [inV]
  | m :: r => by
    have ih := inV_int n r
    unfold inV at ih ⊢
    rw [List.map_cons, List.any_cons, ih]
    show (m == n || decide (n ∈ r)) = decide (n ∈ m :: r)
    rw [Bool.eq_iff_iff]
    simp only [Bool.or_eq_true, beq_iff_eq, decide_eq_true_eq, List.mem_cons]
    constructor
    · rintro (h | h)
      · exact .inl h.symm
      · exact .inr h
    · rintro (h | h)
      · exact .inl h.symm
      · exact .inr h
theorem flat_ints (ms : List Int) : (ms.map V.int).all flatV = true := by
  rw [List.all_map, List.all_eq_true]
  intro x _
  rfl
theorem ev_ninI (h : Ev ta σ H (.int i)) (hl : EvL tb σ H (ms.map V.int)) : Ev (tOp (rIn K true) ta tb) σ H (.bl (!decide (i ∈ ms))) := by
  rw [← inV_int]
  exact ev_opL h hl fun _ _ hp e => rv_niL (sq_of hp) rfl (flat_ints ms)
/-- the counts of a list's rests -/
theorem ed_counts0 {E : XK} {L : Int} (h : Ev ta σ H (.ref a)) (hs : SqL K H a (ns.map V.int)) (hL : Ev tb σ H (.int L)) (hl : ns.length ≤ 30000) (h0 : 0 < L) : EvD (tCall (sp_counts_of K) [] E (tCons ta (tCons tb tNil))) σ H fun kvs => DTal kvs ns L := fun H1 e Q q =>
  h H1 e _ fun H2 e2 => hL H2 (e.trans e2) _ fun H3 e3 => ⟨a, ns, L, rfl, ex_l ((e.trans e2).trans e3) hs, ⟨hl, h0⟩, fun p kvs H4 hp e4 h4 dt => q p kvs H4 (fresh_back (e2.trans e3) hp) ((e2.trans e3).trans e4) h4 dt⟩
theorem ed_counts {E : XK} {L : Int} (h : EvL ta σ H (ns.map V.int)) (hL : Ev tb σ H (.int L)) (hl : ns.length ≤ 30000) (h0 : 0 < L) : EvD (tCall (sp_counts_of K) [] E (tCons ta (tCons tb tNil))) σ H fun kvs => DTal kvs ns L := fun H1 e Q q =>
  h H1 e _ fun a H2 _ e2 h2 => hL H2 (e.trans e2) _ fun H3 e3 => ⟨a, ns, L, rfl, sq_map (e3 _ _ h2), ⟨hl, h0⟩, fun p kvs H4 hp e4 h4 dt => q p kvs H4 (fresh_back (e2.trans e3) hp) ((e2.trans e3).trans e4) h4 dt⟩
theorem div_ok {L : Int} (h : 0 < L) (h2 : L.natAbs.log2 < 9000) : CDivW i L := ⟨h, h2⟩
theorem mul_small (h : -(2 ^ 64) < i ∧ i < 2 ^ 64) : IntMulOk i j := CMul.ok (.inl h)
theorem mul_smallR (h : -(2 ^ 64) < j ∧ j < 2 ^ 64) : IntMulOk i j := CMul.ok (.inr h)
end
end Rh

namespace Rh
open PySem PySem.Spec PyProof.Rows L2 Evl

def cellAt (ns : List Int) (k : Int) : Int := ns.getD k.toNat 0
def primes : List Int := [1000003, 1000033, 1000037, 1000039, 1000081, 1000099, 1000117, 1000121, 1000133, 1000151, 1000159, 1000171, 1000183, 1000187, 1000193, 1000199]
def prime (k : Int) : Int := primes.getD (k % 16).toNat 1
def draw (c k m : Int) : Int := (c * 48271 + k * 69621) % prime k % m
abbrev t18 : Int := 1000000000000000000
abbrev t60 : Int := 1000000000000000000000000000000000000000000000000000000000000
def value (c k m : Int) : Int := if t18 ≤ c then (c - t18) % t60 else draw ((c + 977 * k) * (c + 31 * k + 5)) (k % 9 + 1) m
theorem draw_ok (c k : Int) {m : Int} (h : 0 < m) : 0 ≤ draw c k m ∧ draw c k m < m := rest_ok h _
theorem prime_pos (k : Int) : 0 < prime k := by
  have h := rest_ok (show (0 : Int) < 16 by decide) k
  unfold prime
  have : ∀ j : Nat, j < 16 → 0 < primes.getD j 1 := by decide
  exact this _ (by omega)
theorem prime_at (k : Int) : primes[(k % 16).toNat]? = some (prime k) := by
  have h := rest_ok (show (0 : Int) < 16 by decide) k
  have hl : (k % 16).toNat < primes.length := by show _ < 16; omega
  unfold prime
  rw [List.getD_eq_getElem?_getD, List.getElem?_eq_getElem hl]
  rfl
theorem value_ok (c k : Int) {m : Int} (h : 0 < m) (h2 : m ≤ 1000000) : 0 ≤ value c k m ∧ value c k m < t60 := by
  unfold value
  split
  · exact rest_ok (by decide) _
  · have := draw_ok ((c + 977 * k) * (c + 31 * k + 5)) (k % 9 + 1) h
    have e : (1000000 : Int) < t60 := by decide
    exact ⟨this.1, by omega⟩

theorem bits_lt {x : Int} {b : Nat} (h : Builtin.Int.intBits x ≤ b) : x.natAbs < 2 ^ b := by
  unfold Builtin.Int.intBits at h
  split at h
  · rename_i e
    have : x = 0 := by simpa using e
    subst this
    exact Nat.two_pow_pos b
  · rename_i e
    have h0 : x.natAbs ≠ 0 := by
      intro z
      apply e
      have : x = 0 := Int.natAbs_eq_zero.mp z
      simp [this]
    exact (Nat.log2_lt h0).mp (by omega)
theorem bits_le {x : Int} {b : Nat} (h : x.natAbs < 2 ^ b) : Builtin.Int.intBits x ≤ b := by
  unfold Builtin.Int.intBits
  split
  · exact Nat.zero_le _
  · rename_i e
    have h0 : x.natAbs ≠ 0 := by
      intro z
      apply e
      have : x = 0 := Int.natAbs_eq_zero.mp z
      simp [this]
    have := (Nat.log2_lt h0).mpr h
    omega
theorem bits_add {x y : Int} {b : Nat} (hx : Builtin.Int.intBits x ≤ b) (hy : Builtin.Int.intBits y ≤ b) : Builtin.Int.intBits (x + y) ≤ b + 1 := by
  have h1 := bits_lt hx
  have h2 := bits_lt hy
  have e : 2 ^ (b + 1) = 2 ^ b + 2 ^ b := by rw [Nat.pow_succ]; omega
  refine bits_le ?_
  rw [e]
  generalize 2 ^ b = z at h1 h2
  omega
theorem bits_mono {x : Int} {a b : Nat} (h : Builtin.Int.intBits x ≤ a) (hab : a ≤ b) : Builtin.Int.intBits x ≤ b := Nat.le_trans h hab
theorem bits_small {x : Int} (h : -(2 ^ 64) < x ∧ x < 2 ^ 64) : Builtin.Int.intBits x ≤ 64 := intBits_le_64 h.1 h.2
theorem mul_bits {i j : Int} {a b : Nat} (hi : Builtin.Int.intBits i ≤ a) (hj : Builtin.Int.intBits j ≤ b) (h : a + b ≤ 100000000) : IntMulOk i j := by
  have e : Builtin.Int.intTooBig (Builtin.Int.intBits i + Builtin.Int.intBits j) = false := by
    unfold Builtin.Int.intTooBig
    rw [bitsLine_eq]
    exact decide_eq_false (by omega)
  unfold IntMulOk
  rw [e]
  simp
theorem log_lt {x : Int} {b : Nat} (h0 : 0 < b) (h : x.natAbs < 2 ^ b) : x.natAbs.log2 < b := PySem.Flt.log2_lt_of h0 h
abbrev Bits (ns : List Int) : Prop := ∀ z ∈ ns, Builtin.Int.intBits z ≤ 1048576
theorem cell_bits {ns : List Int} (h : Bits ns) (k : Int) : Builtin.Int.intBits (cellAt ns k) ≤ 1048576 := by
  unfold cellAt
  rw [List.getD_eq_getElem?_getD]
  cases e : ns[k.toNat]? with
  | none => exact Nat.zero_le _
  | some x => exact h x (List.mem_of_getElem? e)

def tot (b : Int) (l : List Int) : Int := 1 + (l.zipIdx.map fun p => value p.1 ((p.2 : Nat) + b) 3).sum
def psums (b : Int) (l : List Int) : List Int := (List.range l.length).map fun i => tot b (l.take (i + 1))
theorem tot_snoc (b : Int) (l : List Int) (n : Int) : tot b (l ++ [n]) = tot b l + value n ((l.length : Nat) + b) 3 := by
  unfold tot
  rw [List.zipIdx_append, List.map_append, List.sum_append]
  simp
  omega
theorem psums_snoc (b : Int) (l : List Int) (n : Int) : psums b (l ++ [n]) = psums b l ++ [tot b (l ++ [n])] := by
  unfold psums
  rw [List.length_append, List.length_singleton, List.range_succ, List.map_append]
  congr 1
  · refine List.map_congr_left fun i hi => ?_
    have := List.mem_range.mp hi
    rw [List.take_append_of_le_length (by omega)]
  · rw [List.map_singleton, List.take_of_length_le (by rw [List.length_append, List.length_singleton]; exact Nat.le_refl _)]
theorem tot_ok (b : Int) : ∀ (l : List Int) , 1 ≤ tot b l ∧ tot b l ≤ 1 + (l.length : Int) * t60 := by
  intro l
  suffices h : ∀ (k : Nat), 0 ≤ ((l.zipIdx k).map fun p => value p.1 ((p.2 : Nat) + b) 3).sum ∧ ((l.zipIdx k).map fun p => value p.1 ((p.2 : Nat) + b) 3).sum ≤ (l.length : Int) * t60 by
    have := h 0
    unfold tot
    omega
  induction l with
  | nil => intro k; simp
  | cons x r ih =>
    intro k
    have h1 := ih (k + 1)
    have h2 := value_ok x ((k : Nat) + b) (show (0 : Int) < 3 by decide) (by decide)
    rw [List.zipIdx_cons, List.map_cons, List.sum_cons, List.length_cons]
    generalize ((r.zipIdx (k + 1)).map fun p => value p.1 ((p.2 : Nat) + b) 3).sum = s at h1
    have e : ((r.length + 1 : Nat) : Int) * t60 = (r.length : Int) * t60 + t60 := by
      have : ((r.length + 1 : Nat) : Int) = (r.length : Int) + 1 := by omega
      rw [this, Int.add_mul, Int.one_mul]
    rw [e]
    show 0 ≤ value x (((k : Nat) : Int) + b) 3 + s ∧ value x (((k : Nat) : Int) + b) 3 + s ≤ _
    omega
def kindM (s : List Int) (b : Int) : Int := draw (cellAt s 0 + b) 6 6
def mostM (s : List Int) (b : Int) : Int := ([3, 9, 70, 900000] : List Int).getD (draw (cellAt s 1 + b) 7 4).toNat 1
def rows0 (s : List Int) (b : Int) : List Int := s.zipIdx.map fun p => 1 + value p.1 ((p.2 : Nat) + b) (mostM s b)
def rows1 (s : List Int) (b : Int) : List Int := if kindM s b = 0 then psums b s else rows0 s b
def rows2 (s : List Int) (b : Int) : List Int := if kindM s b = 1 then (rows1 s b).take 40 ++ (rows1 s b).take 40 else rows1 s b
def heapM (ns : List Int) (b : Int) : List Int := sortD (rows2 (ns.take 63) b)
def smallM (ns : List Int) (b : Int) : List Int := sortD ((ns.take 12).zipIdx.map fun p => 1 + value p.1 ((p.2 : Nat) + b) 16 % 16)
theorem most_at (s : List Int) (b : Int) : ([3, 9, 70, 900000] : List Int)[(draw (cellAt s 1 + b) 7 4).toNat]? = some (mostM s b) ∧ 0 < mostM s b ∧ mostM s b ≤ 1000000 := by
  have h := draw_ok (cellAt s 1 + b) 7 (show (0 : Int) < 4 by decide)
  have : ∀ j : Nat, j < 4 → ([3, 9, 70, 900000] : List Int)[j]? = some (([3, 9, 70, 900000] : List Int).getD j 1) ∧ 0 < ([3, 9, 70, 900000] : List Int).getD j 1 ∧ ([3, 9, 70, 900000] : List Int).getD j 1 ≤ 1000000 := by decide
  exact this _ (by omega)
/-- rows of a heap that the law makes: from 1 on, bounded -/
def Row (x : Int) : Prop := 1 ≤ x ∧ x < 100 * t60
theorem rows0_ok (s : List Int) (b : Int) : (∀ x ∈ rows0 s b, Row x) ∧ (rows0 s b).length = s.length := by
  unfold rows0
  refine ⟨fun x hx => ?_, by simp⟩
  obtain ⟨p, _, rfl⟩ := List.mem_map.mp hx
  have h := most_at s b
  have := value_ok p.1 ((p.2 : Nat) + b) h.2.1 h.2.2
  unfold Row
  omega
theorem rows1_ok (s : List Int) (b : Int) (hs : s.length ≤ 63) : (∀ x ∈ rows1 s b, Row x) ∧ (rows1 s b).length = s.length := by
  unfold rows1
  split
  · refine ⟨fun x hx => ?_, by simp [psums]⟩
    obtain ⟨i, _, rfl⟩ := List.mem_map.mp hx
    have := tot_ok b (s.take (i + 1))
    have hl : (s.take (i + 1)).length ≤ 63 := by
      rw [List.length_take]
      omega
    have e : ((s.take (i + 1)).length : Int) * t60 ≤ 63 * t60 := Int.mul_le_mul_of_nonneg_right (by omega) (by decide)
    have hb : (1000 : Int) < t60 := by decide
    unfold Row
    omega
  · exact rows0_ok s b
theorem rows2_ok (s : List Int) (b : Int) (hs : s.length ≤ 63) : (∀ x ∈ rows2 s b, Row x) ∧ (rows2 s b).length ≤ 80 ∧ (rows2 s b).length ≤ 2 * s.length := by
  obtain ⟨h1, h2⟩ := rows1_ok s b hs
  unfold rows2
  split
  · refine ⟨fun x hx => ?_, ?_, ?_⟩
    · rcases List.mem_append.mp hx with q | q <;> exact h1 x (List.mem_of_mem_take q)
    · rw [List.length_append, List.length_take]
      omega
    · rw [List.length_append, List.length_take]
      omega
  · exact ⟨h1, by omega, by omega⟩
structure Made (h : List Int) : Prop where
  heap : IsHeap h
  row : ∀ x ∈ h, Row x
  len : h.length ≤ 80
theorem made_sort {R : List Int} (h : ∀ x ∈ R, Row x) (hl : R.length ≤ 80) : Made (sortD R) := by
  have p := sortD_perm R
  refine ⟨⟨fun x hx => ?_, sortD_falls R⟩, fun x hx => h x (p.mem_iff.mp hx), by rw [p.length_eq]; exact hl⟩
  have := h x (p.mem_iff.mp hx)
  unfold Row at this
  omega
theorem heapM_made (ns : List Int) (b : Int) : Made (heapM ns b) := by
  have h := rows2_ok (ns.take 63) b (by rw [List.length_take]; omega)
  exact made_sort h.1 h.2.1
theorem smallM_row (ns : List Int) (b : Int) : ∀ x ∈ smallM ns b, 1 ≤ x ∧ x ≤ 16 := by
  intro x hx
  obtain ⟨p, _, rfl⟩ := List.mem_map.mp ((sortD_perm _).mem_iff.mp hx)
  have := rest_ok (show (0 : Int) < 16 by decide) (value p.1 ((p.2 : Nat) + b) 16)
  omega
theorem smallM_len (ns : List Int) (b : Int) : (smallM ns b).length ≤ 12 := by
  unfold smallM
  rw [(sortD_perm _).length_eq, List.length_map, List.length_zipIdx, List.length_take]
  omega
theorem smallM_made (ns : List Int) (b : Int) : Made (smallM ns b) := by
  refine ⟨⟨fun x hx => by have := smallM_row ns b x hx; omega, sortD_falls _⟩, fun x hx => ?_, by have := smallM_len ns b; omega⟩
  have := smallM_row ns b x hx
  have e : (16 : Int) < 100 * t60 := by decide
  unfold Row
  omega
/-- marks of such a heap are bounded -/
theorem made_mark {h : List Int} (m : Made h) {x : Int} (hx : x ∈ marksOf h) : 1 ≤ x ∧ x < 200 * t60 := by
  have h1 := heap_marks m.heap x hx
  have : ∀ l : List Int, (∀ y ∈ l, Row y) → ∀ x ∈ marksOf l, x < 100 * t60 + (l.length : Int) := by
    intro l
    induction l with
    | nil => intro _ x hx; cases hx
    | cons y r ih =>
      intro hl x hx
      rw [List.length_cons]
      rcases List.mem_cons.mp hx with e | e
      · have := hl y List.mem_cons_self
        unfold Row at this
        omega
      · have := ih (fun z hz => hl z (List.mem_cons_of_mem _ hz)) x e
        omega
  have h2 := this h m.row x hx
  have h3 := m.len
  have e : (80 : Int) < t60 := by decide
  omega
def mid (h : List Int) : List Int := marksOf h ++ [1]
def lengthsM (ns h : List Int) : List Int :=
  [1, 2 + draw (cellAt ns 3) 4 7, 1 + draw (cellAt ns 4) 5 90] ++ [(mid h).getD 0 0 + 1, max 1 ((mid h).getD 0 0), max 1 ((mid h).getD ((mid h).length / 2) 0)] ++ [1 + value (cellAt ns 5) 6 900000]
/-- a length that the law makes -/
def Lgth (L : Int) : Prop := 1 ≤ L ∧ L < 300 * t60
theorem Lgth.log {L : Int} (h : Lgth L) : L.natAbs.log2 < 9000 := by
  have : L.natAbs < 2 ^ 220 := by
    have e : (300 * t60) < (2 : Int) ^ 220 := by decide
    have h1 := h.1
    have h2 := h.2
    have e2 : ((2 ^ 220 : Nat) : Int) = (2 : Int) ^ 220 := by decide
    omega
  have := log_lt (by decide) this
  omega
theorem mid_at {h : List Int} (m : Made h) {k : Nat} (hk : k < (mid h).length) : (mid h)[k]? = some ((mid h).getD k 0) ∧ 1 ≤ (mid h).getD k 0 ∧ (mid h).getD k 0 < 200 * t60 := by
  have e : (mid h)[k]? = some ((mid h).getD k 0) := by rw [List.getD_eq_getElem?_getD, List.getElem?_eq_getElem hk]; rfl
  refine ⟨e, ?_⟩
  have hm := List.mem_of_getElem? e
  rcases List.mem_append.mp hm with q | q
  · exact made_mark m q
  · have : (mid h).getD k 0 = 1 := by simpa using q
    rw [this]
    decide
theorem mid_len (h : List Int) : (mid h).length = h.length + 1 := by simp [mid, marksOf_len]
theorem lengths_ok (ns : List Int) {h : List Int} (m : Made h) : ∀ L ∈ lengthsM ns h, Lgth L := by
  have hl := mid_len h
  have h0 := mid_at m (show 0 < (mid h).length by omega)
  have h1 := mid_at m (show (mid h).length / 2 < (mid h).length by omega)
  have d1 := draw_ok (cellAt ns 3) 4 (show (0 : Int) < 7 by decide)
  have d2 := draw_ok (cellAt ns 4) 5 (show (0 : Int) < 90 by decide)
  have d3 := value_ok (cellAt ns 5) 6 (show (0 : Int) < 900000 by decide) (by decide)
  have e : (1000 : Int) < t60 := by decide
  intro L hL
  unfold lengthsM at hL
  simp only [List.mem_append, List.mem_cons, List.not_mem_nil, or_false] at hL
  unfold Lgth
  omega
end Rh
namespace Rh
open PySem PySem.Spec PyProof.Rows L2 Evl
theorem made_sum {h : List Int} (m : Made h) : 0 ≤ h.sum ∧ h.sum < 10000 * t60 := by
  have : ∀ l : List Int, (∀ y ∈ l, Row y) → 0 ≤ l.sum ∧ l.sum ≤ (l.length : Int) * (100 * t60) := by
    intro l
    induction l with
    | nil => intro _; exact ⟨Int.le_refl 0, by simp⟩
    | cons y r ih =>
      intro hl
      have h1 := ih fun z hz => hl z (List.mem_cons_of_mem _ hz)
      have h2 := hl y List.mem_cons_self
      unfold Row at h2
      rw [List.sum_cons, List.length_cons]
      have e : ((r.length + 1 : Nat) : Int) * (100 * t60) = (r.length : Int) * (100 * t60) + 100 * t60 := by
        have : ((r.length + 1 : Nat) : Int) = (r.length : Int) + 1 := by omega
        rw [this, Int.add_mul, Int.one_mul]
      omega
  have h1 := this h m.row
  have h2 := m.len
  have e : (h.length : Int) * (100 * t60) ≤ 80 * (100 * t60) := Int.mul_le_mul_of_nonneg_right (by omega) (by decide)
  have hb : (1000 : Int) < t60 := by decide
  omega
theorem bits_of_lt {x : Int} (h0 : 0 ≤ x) (h : x < 10000 * t60) : Builtin.Int.intBits x ≤ 220 := by
  refine bits_le ?_
  have e : (10000 * t60) < (2 : Int) ^ 220 := by decide
  have e2 : ((2 ^ 220 : Nat) : Int) = (2 : Int) ^ 220 := by decide
  omega
theorem Lgth.bits {L : Int} (h : Lgth L) : Builtin.Int.intBits L ≤ 220 := by
  have h1 := h.1
  have h2 := h.2
  have hb : (1000 : Int) < t60 := by decide
  exact bits_of_lt (by omega) (by omega)
theorem rims_bits {h : List Int} {L : Int} (m : Made h) (hL : 0 < L) : Builtin.Int.intBits (rimsIn h L) ≤ 220 := by
  have h1 := rims_le m.heap hL
  have h2 := made_sum m
  exact bits_of_lt h1.1 (by omega)
end Rh

namespace Rh
open PySem PySem.Spec PyProof.Rows L2 Evl
theorem cut_take (xs : List V) (k : Nat) : cutV xs none (some (k : Int)) = xs.take k := by
  unfold cutV
  rw [HT.sIx_none, HT.sIx_nat, List.drop_zero, Nat.sub_zero]
  exact (List.take_eq_take_min).symm
theorem cut_drop (xs : List V) (k : Nat) : cutV xs (some (k : Int)) none = xs.drop k := by
  unfold cutV
  rw [HT.sIx_none, HT.sIx_nat]
  by_cases h : k ≤ xs.length
  · rw [Nat.min_eq_left h, List.take_of_length_le (by rw [List.length_drop]; exact Nat.le_refl _)]
  · rw [Nat.min_eq_right (by omega), Nat.sub_self, List.take_zero, List.drop_of_length_le (by omega)]
/-- xs[-k:] -/
theorem cut_last (xs : List V) (k : Nat) (hk : 0 < k) : cutV xs (some (-(k : Int))) none = xs.drop (xs.length - k) := by
  unfold cutV
  have e : HT.sIx xs.length 0 (some (-(k : Int))) = xs.length - k := by
    show (if -(k : Int) < 0 then (-(k : Int) + (xs.length : Int)).toNat else _) = _
    rw [if_pos (by omega)]
    omega
  rw [HT.sIx_none, e, List.take_of_length_le (by rw [List.length_drop]; exact Nat.le_refl _)]
/-- xs[:-k] -/
theorem cut_but (xs : List V) (k : Nat) (hk : 0 < k) : cutV xs none (some (-(k : Int))) = xs.take (xs.length - k) := by
  unfold cutV
  have e : HT.sIx xs.length xs.length (some (-(k : Int))) = xs.length - k := by
    show (if -(k : Int) < 0 then (-(k : Int) + (xs.length : Int)).toNat else _) = _
    rw [if_pos (by omega)]
    omega
  rw [HT.sIx_none, e, List.drop_zero, Nat.sub_zero]
section
variable {K : PySem.W.Frag} {σ : L2.St} {H H' : Hp} {ta tb te tx tl : TE} {t u : TT} {x y z v : V} {i j : Int} {a : Addr} {ns ms : List Int} {D : Ends} {tu tw tz : TS} {g : TG} {tg : TA}
theorem el_as {xs ys : List V} (h : EvL te σ H xs) (e : xs = ys) : EvL te σ H ys := by
  rw [← e]
  exact h
theorem ea_one (h : Ev ta σ H x) : EvA (tCons ta tNil) σ H [x] := ea_cons h ea_nil
theorem ea_two (h : Ev ta σ H x) (h2 : Ev tb σ H y) : EvA (tCons ta (tCons tb tNil)) σ H [x, y] := ea_cons h (ea_cons h2 ea_nil)
theorem ea_three (h : Ev ta σ H x) (h2 : Ev tb σ H y) (h3 : Ev tx σ H z) : EvA (tCons ta (tCons tb (tCons tx tNil))) σ H [x, y, z] := ea_cons h (ea_cons h2 (ea_cons h3 ea_nil))
theorem el_takeI {k : Nat} (h : Ev te σ H (.ref a)) (hs : SqL K H a (ns.map V.int)) (hk : Ev tb σ H (.int (k : Int))) : EvL (tSl (rSlL K) te tNoPart (tPart tb)) σ H ((ns.take k).map V.int) :=
  el_as (el_sl h eo_none (eo_some hk) hs) (by rw [cut_take, List.map_take])
theorem el_dropI {k : Nat} (h : Ev te σ H (.ref a)) (hs : SqL K H a (ns.map V.int)) (hk : Ev tb σ H (.int (k : Int))) : EvL (tSl (rSlL K) te (tPart tb) tNoPart) σ H ((ns.drop k).map V.int) :=
  el_as (el_sl h (eo_some hk) eo_none hs) (by rw [cut_drop, List.map_drop])
/-- the same of a new list -/
theorem el_slN {tl th : TO} {xs ys : List V} {lo hi : Option Int} (h : EvL te σ H xs) (h1 : EvO tl σ H lo) (h2 : EvO th σ H hi) (e : cutV xs lo hi = ys) : EvL (tSl (rSlL K) te tl th) σ H ys := by
  subst e
  exact fun H1 e Q q => h H1 e _ fun p H2 _ e2 h3 => h1 H2 (e.trans e2) _ fun H3 e3 => h2 H3 ((e.trans e2).trans e3) _ fun H4 e4 =>
    ⟨p, xs, rfl, sq_of ((e3.trans e4) _ _ h3), fun p' hp => q p' _ (fresh_back ((e2.trans e3).trans e4) hp) (((e2.trans e3).trans e4).trans (Ex.new hp)) upd_same⟩
theorem el_takeN {k : Nat} (h : EvL te σ H (ns.map V.int)) (hk : Ev tb σ H (.int (k : Int))) : EvL (tSl (rSlL K) te tNoPart (tPart tb)) σ H ((ns.take k).map V.int) :=
  el_slN h eo_none (eo_some hk) (by rw [cut_take, List.map_take])
theorem el_dropN {k : Nat} (h : EvL te σ H (ns.map V.int)) (hk : Ev tb σ H (.int (k : Int))) : EvL (tSl (rSlL K) te (tPart tb) tNoPart) σ H ((ns.drop k).map V.int) :=
  el_slN h (eo_some hk) eo_none (by rw [cut_drop, List.map_drop])
theorem el_revI (h : Ev te σ H (.ref a)) (hs : SqL K H a (ns.map V.int)) : EvL (tRevL K te) σ H (ns.reverse.map V.int) := fun H1 e Q q =>
  h H1 e _ fun H2 e2 => ⟨a, _, rfl, ex_l (e.trans e2) hs, fun p hp => q p _ (fresh_back e2 hp) (e2.trans (Ex.new hp)) (by rw [upd_same, List.map_reverse])⟩
/-- a + b, lists that stand or are new -/
theorem el_catX {a b : Addr} {xs ys : List V} (h : Ev ta σ H (.ref a)) (ha : H a = some (.lst xs)) (h2 : Ev tb σ H (.ref b)) (hb : H b = some (.lst ys)) (hz : xs.length + ys.length ≤ 100000) : EvL (tOp rCat ta tb) σ H (xs ++ ys) := fun H1 e Q q =>
  h H1 e _ fun H2 e2 => h2 H2 (e.trans e2) _ fun H3 e3 => ⟨a, b, xs, ys, rfl, rfl, ((e.trans e2).trans e3) _ _ ha, ((e.trans e2).trans e3) _ _ hb, sz_of hz, fun p hp => q p _ (fresh_back (e2.trans e3) hp) ((e2.trans e3).trans (Ex.new hp)) upd_same⟩
theorem el_catXN {a : Addr} {xs ys : List V} (h : Ev ta σ H (.ref a)) (ha : H a = some (.lst xs)) (h2 : EvL tb σ H ys) (hz : xs.length + ys.length ≤ 100000) : EvL (tOp rCat ta tb) σ H (xs ++ ys) := fun H1 e Q q =>
  h H1 e _ fun H2 e2 => h2 H2 (e.trans e2) _ fun b H3 _ e3 hb => ⟨a, b, xs, ys, rfl, rfl, ((e.trans e2).trans e3) _ _ ha, hb, sz_of hz, fun p hp => q p _ (fresh_back (e2.trans e3) hp) ((e2.trans e3).trans (Ex.new hp)) upd_same⟩
theorem el_catNN {xs ys : List V} (h : EvL ta σ H xs) (h2 : EvL tb σ H ys) (hz : xs.length + ys.length ≤ 100000) : EvL (tOp rCat ta tb) σ H (xs ++ ys) := fun H1 e Q q =>
  h H1 e _ fun a H2 _ e2 ha => h2 H2 (e.trans e2) _ fun b H3 _ e3 hb => ⟨a, b, xs, ys, rfl, rfl, e3 _ _ ha, hb, sz_of hz, fun p hp => q p _ (fresh_back (e2.trans e3) hp) ((e2.trans e3).trans (Ex.new hp)) upd_same⟩
theorem el_catNX {b : Addr} {xs ys : List V} (h : EvL ta σ H xs) (h2 : Ev tb σ H (.ref b)) (hb : H b = some (.lst ys)) (hz : xs.length + ys.length ≤ 100000) : EvL (tOp rCat ta tb) σ H (xs ++ ys) := fun H1 e Q q =>
  h H1 e _ fun a H2 _ e2 ha => h2 H2 (e.trans e2) _ fun H3 e3 => ⟨a, b, xs, ys, rfl, rfl, e3 _ _ ha, ((e.trans e2).trans e3) _ _ hb, sz_of hz, fun p hp => q p _ (fresh_back (e2.trans e3) hp) ((e2.trans e3).trans (Ex.new hp)) upd_same⟩
/-- a new list, k times -/
theorem el_repN {xs : List V} {k : Nat} (h : EvL ta σ H xs) (h2 : Ev tb σ H (.int i)) (h1 : -(2 ^ 63) ≤ i ∧ i < 2 ^ 63) (hk : i.toNat = k) (hz : xs.length * k ≤ 100000) : EvL (tOp rRep ta tb) σ H (List.replicate k xs).flatten := fun H1 e Q q =>
  h H1 e _ fun a H2 _ e2 ha => h2 H2 (e.trans e2) _ fun H3 e3 => ⟨a, i, xs, rfl, rfl, e3 _ _ ha, h1.1, h1.2, by rw [hk]; exact sz_of hz, fun p hp => q p _ (fresh_back (e2.trans e3) hp) ((e2.trans e3).trans (Ex.new hp)) (by rw [upd_same, hk])⟩
theorem ev_ixtN {xs : List V} (h : EvU ta σ H xs) (h2 : Ev tb σ H (.int i)) (hx : atI xs i = some v) : Ev (tOp (rIxT K) ta tb) σ H v := fun H1 e Q q =>
  h H1 e _ fun p H2 _ e2 hp => h2 H2 (e.trans e2) _ fun H3 e3 => ⟨p, xs, i, v, rfl, rfl, st_of (e3 _ _ hp), hx, q H3 (e2.trans e3)⟩
theorem ev_ixt {p : Addr} {xs : List V} (h : Ev ta σ H (.ref p)) (hs : SqT K H p xs) (h2 : Ev tb σ H (.int i)) (hx : atI xs i = some v) : Ev (tOp (rIxT K) ta tb) σ H v := ev_op h h2 (rv_ixT hs hx)
theorem ev_ixl {p : Addr} {xs : List V} (h : Ev ta σ H (.ref p)) (hs : SqL K H p xs) (h2 : Ev tb σ H (.int i)) (hx : atI xs i = some v) : Ev (tOp (rIxL K) ta tb) σ H v := ev_op h h2 (rv_ixL hs hx)
theorem ev_max2I (ha : Ev ta σ H (.int i)) (hb : Ev tb σ H (.int j)) : Ev (tCB (fun xs H Q => ∃ i j, xs = [V.int i, .int j] ∧ Q (.int (if j > i then j else i)) H) (tCons ta (tCons tb tNil))) σ H (.int (max i j)) := fun H1 e Q q =>
  ha H1 e _ fun H2 e2 => hb H2 (e.trans e2) _ fun H3 e3 => ⟨i, j, rfl, by
    have h : (if j > i then j else i) = max i j := by omega
    rw [h]
    exact q H3 (e2.trans e3)⟩
theorem ev_neB {b c : Bool} (ha : Ev ta σ H (.bl b)) (hb : Ev tb σ H (.bl c)) : Ev (tOp rNe ta tb) σ H (.bl (!decide (b = c))) := by
  rw [← dec_b]
  exact ev_op ha hb (rv_ne rfl)
theorem el_nil : EvL (tLst tNil) σ H (([] : List Int).map V.int) := el_lst ea_nil (by decide)
/-- x, y = e, f -/
theorem q_par {k1 k2 : Nat} {vs : List V} (h : EvA tg σ H [x, y]) (q : ∀ H1, Ex H H1 → tz D ((σ.set k1 (some x)).set k2 (some y)) H1) : tSeq (tPar k1 k2 tg) tz D σ H :=
  h H (Ex.refl H) _ fun H1 e => ⟨x, y, rfl, q H1 e⟩
/-- x, y = e, a new list -/
theorem q_parXL {k1 k2 : Nat} {ys : List V} (h : Ev ta σ H x) (h2 : EvL tb σ H ys) (q : ∀ p H1, H p = none → Ex H H1 → H1 p = some (.lst ys) → tz D ((σ.set k1 (some x)).set k2 (some (.ref p))) H1) : tSeq (tPar k1 k2 (tCons ta (tCons tb tNil))) tz D σ H :=
  h H (Ex.refl H) _ fun H1 e => h2 H1 e _ fun p H2 hp e2 h3 => ⟨x, .ref p, rfl, q p H2 (fresh_back e hp) (e.trans e2) h3⟩
/-- x, y = a new list, e -/
theorem q_parLX {k1 k2 : Nat} {xs : List V} (h : EvL ta σ H xs) (h2 : ∀ (p : Addr) H1, Ex H H1 → Ev tb σ H1 y) (q : ∀ p H1, H p = none → Ex H H1 → H1 p = some (.lst xs) → tz D ((σ.set k1 (some (.ref p))).set k2 (some y)) H1) : tSeq (tPar k1 k2 (tCons ta (tCons tb tNil))) tz D σ H :=
  h H (Ex.refl H) _ fun p H1 hp e h3 => h2 p H1 e H1 (Ex.refl H1) _ fun H2 e2 => ⟨.ref p, y, rfl, q p H2 hp (e.trans e2) (e2 _ _ h3)⟩
/-- x, y = two new lists -/
theorem q_parLL {k1 k2 : Nat} {xs ys : List V} (h : EvL ta σ H xs) (h2 : EvL tb σ H ys) (q : ∀ p r H1, H p = none → H r = none → p ≠ r → Ex H H1 → H1 p = some (.lst xs) → H1 r = some (.lst ys) → tz D ((σ.set k1 (some (.ref p))).set k2 (some (.ref r))) H1) : tSeq (tPar k1 k2 (tCons ta (tCons tb tNil))) tz D σ H :=
  h H (Ex.refl H) _ fun p H1 hp e h3 => h2 H1 e _ fun r H2 hr e2 h4 => ⟨.ref p, .ref r, rfl, q p r H2 hp (fresh_back e hr) (ne_of_none h3 hr) (e.trans e2) (e2 _ _ h3) h4⟩
/-- x, y, z = e, a new list, e -/
theorem q_parXLX {k1 k2 : Nat} {ys : List V} (h : Ev ta σ H x) (h2 : EvL tb σ H ys) (q : ∀ p H1, H p = none → Ex H H1 → H1 p = some (.lst ys) → tz D ((σ.set k1 (some x)).set k2 (some (.ref p))) H1) : tSeq (tPar k1 k2 (tCons ta (tCons tb tNil))) tz D σ H := q_parXL h h2 q
end
section
variable (K : PySem.W.Frag)
def sp_l_cell_at : Sp := spLi K (fun ns k => 0 ≤ k ∧ Len ns) fun ns k => RetV (.int (cellAt ns k))
def sp_l_draw : Sp := spiii (fun _ _ m => 0 < m) fun c k m => RetV (.int (draw c k m))
def sp_l_value : Sp := spiii (fun c k m => Builtin.Int.intBits c ≤ 1048576 ∧ (0 ≤ k ∧ k ≤ 1000) ∧ 0 < m) fun c k m => RetV (.int (value c k m))
def sp_l_heap : Sp := spLi K (fun ns b => (Bits ns ∧ Len ns) ∧ (0 ≤ b ∧ b ≤ 100)) fun ns b => RI (heapM ns b)
def sp_l_small : Sp := spLi K (fun ns b => (Bits ns ∧ Len ns) ∧ (0 ≤ b ∧ b ≤ 100)) fun ns b => RI (smallM ns b)
def sp_l_is_heap : Sp := spL K Len fun _ => RetV (.bl true)
/-- (list, list) -/
def sp_l_lengths : Sp := fun vs H Q _ => ∃ (a b : Addr) (ns hs : List Int), vs = [.ref a, .ref b] ∧ SqL K H a (ns.map V.int) ∧ SqL K H b (hs.map V.int) ∧ ((Bits ns ∧ Len ns) ∧ Made hs) ∧ RetL ((lengthsM ns hs).map V.int) H Q
/-- the pair of a core and a number: new -/
def sp_l_core : Sp := fun vs H Q _ => ∃ (a : Addr) (ns : List Int) (L : Int), vs = [.ref a, .int L] ∧ SqL K H a (ns.map V.int) ∧ (Len ns ∧ 0 < L ∧ L.natAbs.log2 < 9000) ∧
  ∀ p c H2, H p = none → H c = none → Ex H H2 → H2 c = some (.lst ((coreOf ns L).map V.int)) → H2 p = some (.tup [.ref c, .int (rimsIn ns L)]) → Q (.ref p) H2
end
end Rh
namespace Rh
open PySem PySem.Spec PyProof.Rows L2 Evl
section
variable {K : PySem.W.Frag} {σ : L2.St} {H H' : Hp} {ta tb te tx tl : TE} {t u : TT} {x y z v : V} {i j : Int} {a : Addr} {ns ms : List Int} {D : Ends} {tu tw tz : TS} {g : TG} {tg : TA}
theorem prime_atI (k : Int) : atI (primes.map V.int) (k % 16) = some (.int (prime k)) := by
  have h := rest_ok (show (0 : Int) < 16 by decide) k
  have e : k % 16 = (((k % 16).toNat : Nat) : Int) := by omega
  rw [e]
  have := atI_int (prime_at k)
  exact this
theorem most_atI (s : List Int) (b : Int) : atI (([3, 9, 70, 900000] : List Int).map V.int) (draw (cellAt s 1 + b) 7 4) = some (.int (mostM s b)) := by
  have h := draw_ok (cellAt s 1 + b) 7 (show (0 : Int) < 4 by decide)
  have e : draw (cellAt s 1 + b) 7 4 = (((draw (cellAt s 1 + b) 7 4).toNat : Nat) : Int) := by omega
  rw [e]
  exact atI_int (most_at s b).1
/-- x, y = a new list, {}, by way of a tuple -/
theorem q_asgLD {k1 k2 : Nat} {xs : List V} (h : EvL ta σ H xs) (q : ∀ p d H1 H2, H p = none → H1 d = none → Ex H H1 → H1 p = some (.lst xs) → Ex H1 H2 → H2 d = some (.dK []) → tz D ((σ.set k1 (some (.ref p))).set k2 (some (.ref d))) H2) :
    tSeq (tAsg (tTup (tCons ta (tCons tDNewK tNil))) (g2 K k1 k2)) tz D σ H :=
  h H (Ex.refl H) _ fun p H1 hp e h1 => fun d hd => ⟨Nat.le_of_ble_eq_true rfl, fun T hT => g2_go upd_same (q p d H1 _ hp hd e h1 ((Ex.new hd).trans (Ex.new hT)) (Ex.new hT _ _ upd_same))⟩
/-- enumerate over a new list -/
theorem asIterE {xs : List V} {vs : List Nat} {ys : List V} (h : EvL tl σ H xs) (hh : ∀ p H1, Ex H H1 → H1 p = some (.lst xs) → EvL (tLc (iEnum K (tCons (tC (.ref p)) tNil)) g t te vs) σ H1 ys) : EvL (tLc (iEnum K (tCons tl tNil)) g t te vs) σ H ys := fun H0 e Q q =>
  h H0 e _ fun p H1 _ e1 hp => hh p H1 (e.trans e1) hp H1 (Ex.refl H1) Q fun p2 H2 hp2 e2 h2 => q p2 H2 (fresh_back e1 hp2) (e1.trans e2) h2
end
end Rh
namespace Rh
open PySem PySem.Spec PyProof.Rows L2 Evl
section
variable {K : PySem.W.Frag} {σ : L2.St} {H H' : Hp} {ta tb tc te tx tl t1 t2 t3 : TE} {t u : TT} {x y z v : V} {i j : Int} {a : Addr} {ns ms xs : List Int} {D : Ends} {tu tw tz : TS} {g : TG} {tg : TA} {E : XK}
/-- calls upon a new list -/
theorem el_cL1 {Pre R} (h : EvL ta σ H (ns.map V.int)) (hp : Pre ns) (hR : R ns = RI xs) : EvL (tCall (spL K Pre R) [] E (tCons ta tNil)) σ H (xs.map V.int) := fun H1 e Q q =>
  h H1 e _ fun p H2 _ e2 h2 => ⟨p, ns, rfl, sq_map h2, hp, by rw [hR]; exact fun p' H3 hp' e3 h3 => q p' H3 (fresh_back e2 hp') (e2.trans e3) h3⟩
theorem ev_cL1 {Pre R} (h : EvL ta σ H (ns.map V.int)) (hp : Pre ns) (hR : R ns = RetV v) : Ev (tCall (spL K Pre R) [] E (tCons ta tNil)) σ H v := fun H1 e Q q =>
  h H1 e _ fun p H2 _ e2 h2 => ⟨p, ns, rfl, sq_map h2, hp, by rw [hR]; exact fun H3 e3 => q H3 (e2.trans e3)⟩
theorem el_cLi {Pre R} (h : EvL ta σ H (ns.map V.int)) (hb : Ev tb σ H (.int i)) (hp : Pre ns i) (hR : R ns i = RI xs) : EvL (tCall (spLi K Pre R) [] E (tCons ta (tCons tb tNil))) σ H (xs.map V.int) := fun H1 e Q q =>
  h H1 e _ fun p H2 _ e2 h2 => hb H2 (e.trans e2) _ fun H3 e3 => ⟨p, ns, i, rfl, sq_map (e3 _ _ h2), hp, by rw [hR]; exact fun p' H4 hp' e4 h4 => q p' H4 (fresh_back (e2.trans e3) hp') ((e2.trans e3).trans e4) h4⟩
theorem ev_cLi {Pre R} (h : EvL ta σ H (ns.map V.int)) (hb : Ev tb σ H (.int i)) (hp : Pre ns i) (hR : R ns i = RetV v) : Ev (tCall (spLi K Pre R) [] E (tCons ta (tCons tb tNil))) σ H v := fun H1 e Q q =>
  h H1 e _ fun p H2 _ e2 h2 => hb H2 (e.trans e2) _ fun H3 e3 => ⟨p, ns, i, rfl, sq_map (e3 _ _ h2), hp, by rw [hR]; exact fun H4 e4 => q H4 ((e2.trans e3).trans e4)⟩
/-- the pair of a core and a number -/
def EvC (te : TE) (σ : L2.St) (H : Hp) (cs : List Int) (n : Int) : Prop := ∀ H1, Ex H H1 → ∀ Q : VK, (∀ p c H2, H1 p = none → H1 c = none → Ex H1 H2 → H2 c = some (.lst (cs.map V.int)) → H2 p = some (.tup [.ref c, .int n]) → Q (.ref p) H2) → te σ H1 Q
theorem EvC.mono {cs : List Int} {n : Int} (e : Ex H H') (h : EvC te σ H cs n) : EvC te σ H' cs n := fun H1 a Q q => h H1 (e.trans a) Q q
theorem ec_core {L : Int} (h : Ev ta σ H (.ref a)) (hs : SqL K H a (ns.map V.int)) (hL : Ev tb σ H (.int L)) (hp : Len ns ∧ 0 < L ∧ L.natAbs.log2 < 9000) : EvC (tCall (sp_l_core K) [] E (tCons ta (tCons tb tNil))) σ H (coreOf ns L) (rimsIn ns L) := fun H1 e Q q =>
  h H1 e _ fun H2 e2 => hL H2 (e.trans e2) _ fun H3 e3 => ⟨a, ns, L, rfl, ex_l ((e.trans e2).trans e3) hs, hp, fun p c H4 hp hc e4 h1 h2 => q p c H4 (fresh_back (e2.trans e3) hp) (fresh_back (e2.trans e3) hc) ((e2.trans e3).trans e4) h1 h2⟩
theorem q_parLC {k1 k2 : Nat} {ys : List V} {cs : List Int} {n : Int} (h : EvL ta σ H ys) (h2 : EvC tb σ H cs n) (q : ∀ p d c H1, H p = none → Ex H H1 → H1 p = some (.lst ys) → H1 c = some (.lst (cs.map V.int)) → H1 d = some (.tup [.ref c, .int n]) → tz D ((σ.set k1 (some (.ref p))).set k2 (some (.ref d))) H1) :
    tSeq (tPar k1 k2 (tCons ta (tCons tb tNil))) tz D σ H := h H (Ex.refl H) _ fun p H1 hp e h3 => h2 H1 e _ fun d c H2 _ _ e2 h4 h5 => ⟨.ref p, .ref d, rfl, q p d c H2 hp (e.trans e2) (e2 _ _ h3) h4 h5⟩
theorem q_asgC {k : Nat} {cs : List Int} {n : Int} (h : EvC te σ H cs n) (q : ∀ d c H1, Ex H H1 → H1 c = some (.lst (cs.map V.int)) → H1 d = some (.tup [.ref c, .int n]) → tz D (σ.set k (some (.ref d))) H1) : tSeq (tAsg te (gName k)) tz D σ H :=
  h H (Ex.refl H) _ fun d c H1 _ _ e h1 h2 => q d c H1 e h1 h2
/-- for x in (three new lists) -/
theorem q_forT3 {k : Nat} {l1 l2 l3 : List Int} (h1 : EvL t1 σ H (l1.map V.int)) (h2 : EvL t2 σ H (l2.map V.int)) (h3 : EvL t3 σ H (l3.map V.int)) (Pv : Hp → L2.St → Hp → Prop) (hE : ∀ H0 σ' H', Pv H0 σ' H' → Ex H0 H') (h0 : ∀ H1, Ex H H1 → Pv H1 σ H1)
    (hs : ∀ H0 p ns σ' H', (ns = l1 ∨ ns = l2 ∨ ns = l3) → Ex H H0 → H0 p = some (.lst (ns.map V.int)) → Pv H0 σ' H' → tu { D with nx := Pv H0, ct := Pv H0, bk := tz D } (σ'.set k (some (.ref p))) H') (hd : ∀ H0 σ' H', Ex H H0 → Pv H0 σ' H' → tz D σ' H') :
    tSeq (tFor (iTup K (tTup (tCons t1 (tCons t2 (tCons t3 tNil))))) (gName k) tu) tz D σ H :=
  h1 H (Ex.refl H) _ fun p1 H1 _ e1 q1 => h2 H1 e1 _ fun p2 H2 _ e2 q2 => h3 H2 (e1.trans e2) _ fun p3 H3 _ e3 q3 => ⟨Nat.le_of_ble_eq_true rfl, fun T hT => ⟨T, rfl, ⟨_, .inl (.inl upd_same)⟩,
    for_tup (xs := [.ref p1, .ref p2, .ref p3]) (fun _ => Pv (upd H3 T (.tup [.ref p1, .ref p2, .ref p3]))) (h0 _ (((e1.trans e2).trans e3).trans (Ex.new hT))) (fun i σ' H' _ q => .inl (.inl (hE _ _ _ q _ _ upd_same))) (fun i x σ' H' hi q => by
      have hm := List.mem_of_getElem? hi
      have e0 := ((e1.trans e2).trans e3).trans (Ex.new (o := .tup [.ref p1, .ref p2, .ref p3]) hT)
      rcases List.mem_cons.mp hm with rfl | hm
      · exact hs _ p1 l1 σ' H' (.inl rfl) e0 (Ex.new hT _ _ (e3 _ _ (e2 _ _ q1))) q
      · rcases List.mem_cons.mp hm with rfl | hm
        · exact hs _ p2 l2 σ' H' (.inr (.inl rfl)) e0 (Ex.new hT _ _ (e3 _ _ q2)) q
        · rcases List.mem_cons.mp hm with rfl | hm
          · exact hs _ p3 l3 σ' H' (.inr (.inr rfl)) e0 (Ex.new hT _ _ q3) q
          · cases hm) (fun σ' H' q => hd _ σ' H' (((e1.trans e2).trans e3).trans (Ex.new hT)) q)⟩⟩
end
section
variable (K : PySem.W.Frag)
def sp_l_taken_right : Sp := fun vs H Q _ => ∃ (a b d c : Addr) (ns hs : List Int) (L : Int), vs = [.ref a, .ref b, .int L, .ref d] ∧ SqL K H a (ns.map V.int) ∧ SqL K H b (hs.map V.int) ∧ SqT K H d [.ref c, .int (rimsIn hs L)] ∧ SqL K H c ((coreOf hs L).map V.int) ∧
  (Len ns ∧ (IsHeap hs ∧ Len hs) ∧ Lgth L) ∧ RetV (.bl true) H Q
def sp_l_right1 : Sp := fun vs H Q _ => ∃ (a b : Addr) (ns hs : List Int) (L : Int), vs = [.ref a, .ref b, .int L] ∧ SqL K H a (ns.map V.int) ∧ SqL K H b (hs.map V.int) ∧ (Len ns ∧ Made hs ∧ Lgth L) ∧ RetV (.bl true) H Q
def sp_law : Sp := fun vs H Q _ => ∃ (a : Addr) (ns : List Int), vs = [.ref a] ∧ SqL K H a (ns.map V.int) ∧ (Bits ns ∧ ns.length ≤ 63) ∧ ∀ H', Q (.bl true) H'
end
end Rh
namespace Rh
open PySem PySem.Spec PyProof.Rows L2 Evl
section
variable {K : PySem.W.Frag} {σ : L2.St} {H H' : Hp} {ta tb tc te tx tl t1 t2 t3 : TE} {t u : TT} {x y z v : V} {i j : Int} {a b : Addr} {ns hs ms xs : List Int} {D : Ends} {tu tw tz : TS} {g : TG} {tg : TA} {E : XK}
theorem s_retC {cs : List Int} {n : Int} (h : EvL ta σ H (cs.map V.int)) (hb : Ev tb σ H (.int n)) (q : ∀ c p H3, H c = none → H p = none → Ex H H3 → H3 c = some (.lst (cs.map V.int)) → H3 p = some (.tup [.ref c, .int n]) → D.rt (.ref p) H3) : tRet (tTup (tCons ta (tCons tb tNil))) D σ H :=
  h H (Ex.refl H) _ fun c H1 hc e1 h1 => hb H1 e1 _ fun H2 e2 => ⟨Nat.le_of_ble_eq_true rfl, fun p hp => q c p _ hc (fresh_back (e1.trans e2) hp) ((e1.trans e2).trans (Ex.new hp)) (Ex.new hp _ _ (e2 _ _ h1)) upd_same⟩
theorem go_taken {d c : Addr} {L : Int} (h1 : SqL K H a (ns.map V.int)) (h2 : SqL K H b (hs.map V.int)) (h3 : SqT K H d [.ref c, .int (rimsIn hs L)]) (h4 : SqL K H c ((coreOf hs L).map V.int)) (hp : Len ns ∧ (IsHeap hs ∧ Len hs) ∧ Lgth L) :
    SpV (sp_l_taken_right K) [.ref a, .ref b, .int L, .ref d] H (.bl true) := fun _ e Q q E => ⟨a, b, d, c, ns, hs, L, rfl, ex_l e h1, ex_l e h2, ex_t e h3, ex_l e h4, hp, q⟩
theorem go_right1 {L : Int} (h1 : SqL K H a (ns.map V.int)) (h2 : SqL K H b (hs.map V.int)) (hp : Len ns ∧ Made hs ∧ Lgth L) : SpV (sp_l_right1 K) [.ref a, .ref b, .int L] H (.bl true) := fun _ e Q q E => ⟨a, b, ns, hs, L, rfl, ex_l e h1, ex_l e h2, hp, q⟩
theorem go_lengths (h1 : SqL K H a (ns.map V.int)) (h2 : SqL K H b (hs.map V.int)) (hp : (Bits ns ∧ Len ns) ∧ Made hs) : SpL (sp_l_lengths K) [.ref a, .ref b] H ((lengthsM ns hs).map V.int) := fun _ e Q q E => ⟨a, b, ns, hs, rfl, ex_l e h1, ex_l e h2, hp, q⟩
theorem Made.len2 {h : List Int} (m : Made h) : Len h := by have := m.len; show _ ≤ 30000; omega
theorem all_true {α : Type} (l : List α) : (l.map fun _ => true).all id = true := by
  rw [List.all_map, List.all_eq_true]
  intro x _
  rfl
end
end Rh
namespace Rh
open PySem PySem.Spec PyProof.Rows L2 Evl
/-- where a def stands behind the top -/
def Facts (K : PySem.W.Frag) (x : Str) (st : Stmt) : Prop := ∃ (f : Addr) (oc : Value) (od : Option Addr) (kV doc pm : Value) (an : Option Addr) (cdv ct : Value) (osl : Array (Option Value)),
  PySem.W.nsIn K mainGlobals x = some (some (.ref f)) ∧ K.lookup f = some ⟨oc, od, .func (PySem.W.fnOf x x (defArgs st) (defBody st) (defScope st) .none kV doc pm an cdv ct), osl⟩ ∧ PySem.W.codeIn K cdv x = true ∧ PySem.W.keepIn K (.ref f) = true
theorem facts_mk {K : PySem.W.Frag} {x : Str} {st : Stmt} {f : Addr} {oc : Value} {od : Option Addr} {kV doc pm : Value} {an : Option Addr} {cdv ct : Value} {osl : Array (Option Value)} (a : PySem.W.nsIn K mainGlobals x = some (some (.ref f)))
    (l : K.lookup f = some ⟨oc, od, .func (PySem.W.fnOf x x (defArgs st) (defBody st) (defScope st) .none kV doc pm an cdv ct), osl⟩) (c : PySem.W.codeIn K cdv x = true) (k : PySem.W.keepIn K (.ref f) = true) : Facts K x st := ⟨f, oc, od, kV, doc, pm, an, cdv, ct, osl, a, l, c, k⟩
end Rh

namespace Rh

def shN : Nat → List Int → List Int
  | 0, M => M
  | n + 1, M => sh (shN n M)
theorem shN_beads {M : List Int} (B : Beads M) : ∀ n, Beads (shN n M)
  | 0 => B
  | n + 1 => (shN_beads B n).sh
theorem mem_shN {M : List Int} : ∀ (n : Nat) (x : Int), x ∈ shN n M ↔ (0 ≤ x ∧ x < n) ∨ x - n ∈ M
  | 0, x => by
    have e : x - ((0 : Nat) : Int) = x := by omega
    rw [e]
    constructor
    · exact fun h => .inr h
    · rintro (h | h)
      · omega
      · exact h
  | n + 1, x => by
    show x ∈ sh (shN n M) ↔ _
    rw [mem_sh, mem_shN n]
    have e : x - 1 - (n : Int) = x - ((n + 1 : Nat) : Int) := by omega
    rw [e]
    constructor
    · rintro (h | h | h)
      · exact .inl (by omega)
      · exact .inl (by omega)
      · exact .inr h
    · rintro (h | h)
      · by_cases h0 : x = 0
        · exact .inl h0
        · exact .inr (.inl (by omega))
      · exact .inr (.inr h)
theorem sh_len (M : List Int) : (sh M).length = M.length + 1 := by simp [sh]
theorem shN_len (M : List Int) : ∀ n, (shN n M).length = M.length + n
  | 0 => rfl
  | n + 1 => by
    show (sh (shN n M)).length = _
    rw [sh_len, shN_len M n]
    rfl
theorem heapOf_shN {M : List Int} (B : Beads M) : ∀ n, heapOf (shN n M) = heapOf M
  | 0 => rfl
  | n + 1 => by
    show heapOf (sh (shN n M)) = _
    rw [heapOf_sh (shN_beads B n), heapOf_shN B n]
theorem pad_shN (h : List Int) (d : Nat) : ∀ n, pad h (d + n) = shN n (pad h d)
  | 0 => rfl
  | n + 1 => by
    show pad h (d + n + 1) = sh (shN n (pad h d))
    rw [pad_succ, pad_shN h d n]

theorem cl_perm {M N : List Int} (p : M.Perm N) (L r : Int) : (cl M L r).Perm (cl N L r) := (p.filter _).map _
theorem lq {L q r a : Int} (hr : 0 ≤ r ∧ r < L) : (0 ≤ L * q + r ↔ 0 ≤ q) ∧ (L * q + r < L * a ↔ q < a) := by
  have hL : 0 ≤ L := by omega
  have key : ∀ b c : Int, b < c → L * b + L ≤ L * c := fun b c h => by
    have := Int.mul_le_mul_of_nonneg_left (show b + 1 ≤ c by omega) hL
    rw [Int.mul_add, Int.mul_one] at this
    exact this
  constructor
  · constructor
    · intro h
      by_cases hq : 0 ≤ q
      · exact hq
      · have := key q 0 (by omega)
        rw [Int.mul_zero] at this
        omega
    · intro h
      have := Int.mul_nonneg hL h
      omega
  · constructor
    · intro h
      by_cases hq : q < a
      · exact hq
      · have := Int.mul_le_mul_of_nonneg_left (show a ≤ q by omega) hL
        omega
    · intro h
      have := key q a h
      omega
theorem cl_shN {M : List Int} (B : Beads M) {L r : Int} (hL : 0 < L) (hr : 0 ≤ r ∧ r < L) (a : Nat) : (cl (shN (L.toNat * a) M) L r).Perm (shN a (cl M L r)) := by
  refine perm_of_mem (cl_beads (shN_beads B _) hL r).nd (shN_beads (cl_beads B hL r) a).nd fun q => ?_
  have e : ((L.toNat * a : Nat) : Int) = L * (a : Int) := by
    rw [Int.natCast_mul]
    congr 1
    omega
  rw [mem_cl hr, mem_shN, mem_shN, mem_cl hr, e]
  obtain ⟨h1, h2⟩ := lq (q := q) (a := (a : Int)) hr
  rw [h1, h2]
  have e2 : L * q + r - L * (a : Int) = L * (q - a) + r := by
    rw [Int.mul_sub]
    omega
  rw [e2]
theorem perm_of_cl {X Y : List Int} {L : Int} (hL : 0 < L) (A : Beads X) (B : Beads Y) (h : ∀ r, 0 ≤ r → r < L → (cl X L r).Perm (cl Y L r)) : X.Perm Y := by
  refine perm_of_mem A.nd B.nd fun x => ?_
  have hr := rest_ok hL x
  have e := qr_of L x
  have := (h (x % L) hr.1 hr.2).mem_iff (a := x / L)
  rw [mem_cl hr, mem_cl hr, ← e] at this
  exact this
theorem core_cl {C M : List Int} {L r : Int} (hL : 0 < L) (hr : 0 ≤ r ∧ r < L) (c : IsCore C M L) : (cl C L r).Perm (upto (cnt M L r)) := by
  have nd : (upto (cnt M L r)).Nodup := by
    unfold upto
    rw [List.nodup_iff_pairwise_ne, List.pairwise_map]
    exact List.Pairwise.imp (fun h e => h (Int.ofNat.inj e)) (List.nodup_iff_pairwise_ne.mp List.nodup_range)
  refine perm_of_mem (cl_beads c.beads hL r).nd nd fun q => ?_
  obtain ⟨a, b⟩ := qr hr.1 hr.2 (rfl : L * q + r = L * q + r)
  rw [mem_cl hr, c.mem, mem_upto]
  unfold Low
  rw [a, b, (lq hr (a := 0)).1]
theorem core_cnt {C M : List Int} {L r : Int} (hL : 0 < L) (hr : 0 ≤ r ∧ r < L) (c : IsCore C M L) : cnt C L r = cnt M L r := by
  rw [← cl_len C, (core_cl hL hr c).length_eq, upto_len]

def padN (h : List Int) (L : Int) : Nat := (-(h.length : Int) % L).toNat
def padM (h : List Int) (L : Int) : List Int := pad h (padN h L)
def partOf (h : List Int) (L r : Int) : List Int := heapOf (cl (padM h L) L r)
def partsOf (h : List Int) (L : Int) : List (List Int) := (List.range L.toNat).map fun (r : Nat) => partOf h L r
theorem padN_eq {h : List Int} {L : Int} (hL : 0 < L) : ((padN h L : Nat) : Int) = -(h.length : Int) % L := by
  unfold padN
  have := rest_ok hL (-(h.length : Int))
  omega
theorem padN_lt {h : List Int} {L : Int} (hL : 0 < L) : ((padN h L : Nat) : Int) < L := by
  rw [padN_eq hL]
  exact (rest_ok hL _).2
theorem padM_len {h : List Int} {L : Int} (hL : 0 < L) : (((padM h L).length : Nat) : Int) % L = 0 := by
  unfold padM
  rw [pad_len]
  have e := qr_of L (-(h.length : Int))
  rw [← padN_eq hL] at e
  have e2 : ((h.length + padN h L : Nat) : Int) = L * -(-(h.length : Int) / L) := by
    rw [Int.mul_neg]
    omega
  rw [e2]
  exact Int.mul_emod_right _ _
theorem padM_beads {h : List Int} (H : IsHeap h) (L : Int) : Beads (padM h L) := pad_beads H _
theorem padM_heap {h : List Int} (H : IsHeap h) (L : Int) : heapOf (padM h L) = h := heapOf_pad H _
theorem padM_size (h : List Int) {L : Int} : (padM h L).length = h.length + padN h L := pad_len _ _
/-- the heap of a class, of marks of any kind whose number is one of whole lengths -/
theorem part_of_beads {X : List Int} (B : Beads X) {L r : Int} (hL : 0 < L) (hr : 0 ≤ r ∧ r < L) (hl : ((X.length : Nat) : Int) % L = 0) : heapOf (cl X L r) = partOf (heapOf X) L r := by
  obtain ⟨H, hle, p⟩ := beads_pad B
  generalize heapOf X = h at H hle p
  obtain ⟨m, hm⟩ : ∃ m : Nat, X.length - h.length = padN h L + L.toNat * m := by
    have e := qr_of L ((X.length : Nat) : Int)
    rw [hl] at e
    generalize hk : X.length - h.length = k
    have e1 : -(h.length : Int) = (k : Int) + L * -(((X.length : Nat) : Int) / L) := by
      rw [Int.mul_neg]
      omega
    have e2 : -(h.length : Int) % L = (k : Int) % L := by rw [e1, Int.add_mul_emod_self_left]
    have e3 := padN_eq (h := h) hL
    rw [e2] at e3
    have e4 := qr_of L (k : Int)
    have e5 := quo_nn hL (show (0 : Int) ≤ (k : Int) by omega)
    refine ⟨((k : Int) / L).toNat, ?_⟩
    have e6 : ((L.toNat * ((k : Int) / L).toNat : Nat) : Int) = L * ((k : Int) / L) := by
      rw [Int.natCast_mul]
      congr 1 <;> omega
    omega
  rw [hm, pad_shN] at p
  have q := (cl_perm p L r).trans (cl_shN (pad_beads H _) hL hr m)
  rw [heapOf_congr q, heapOf_shN (cl_beads (pad_beads H _) hL r)]
  rfl
/-- the core and the parts tell the heap -/
theorem parts_inj {h k : List Int} (H : IsHeap h) (G : IsHeap k) {L : Int} (hL : 0 < L) (hc : coreOf h L = coreOf k L) (hp : ∀ r, 0 ≤ r → r < L → partOf h L r = partOf k L r) : h = k := by
  obtain ⟨a, ha⟩ : ∃ a : Nat, (padM h L).length = L.toNat * a := by
    have e := qr_of L (((padM h L).length : Nat) : Int)
    rw [padM_len hL] at e
    have e5 := quo_nn hL (show (0 : Int) ≤ (((padM h L).length : Nat) : Int) by omega)
    refine ⟨((((padM h L).length : Nat) : Int) / L).toNat, ?_⟩
    have e6 : ((L.toNat * ((((padM h L).length : Nat) : Int) / L).toNat : Nat) : Int) = L * ((((padM h L).length : Nat) : Int) / L) := by
      rw [Int.natCast_mul]
      congr 1 <;> omega
    omega
  obtain ⟨b, hb⟩ : ∃ b : Nat, (padM k L).length = L.toNat * b := by
    have e := qr_of L (((padM k L).length : Nat) : Int)
    rw [padM_len hL] at e
    have e5 := quo_nn hL (show (0 : Int) ≤ (((padM k L).length : Nat) : Int) by omega)
    refine ⟨((((padM k L).length : Nat) : Int) / L).toNat, ?_⟩
    have e6 : ((L.toNat * ((((padM k L).length : Nat) : Int) / L).toNat : Nat) : Int) = L * ((((padM k L).length : Nat) : Int) / L) := by
      rw [Int.natCast_mul]
      congr 1 <;> omega
    omega
  have Bh := padM_beads H L
  have Bk := padM_beads G L
  have BX := shN_beads Bh (L.toNat * b)
  have BY := shN_beads Bk (L.toNat * a)
  have hX : heapOf (shN (L.toNat * b) (padM h L)) = h := by rw [heapOf_shN Bh, padM_heap H]
  have hY : heapOf (shN (L.toNat * a) (padM k L)) = k := by rw [heapOf_shN Bk, padM_heap G]
  have hXY : (shN (L.toNat * b) (padM h L)).length = (shN (L.toNat * a) (padM k L)).length := by
    rw [shN_len, shN_len]
    omega
  have cX := lowsOf_core hL (shN (L.toNat * b) (padM h L))
  have cY := lowsOf_core hL (shN (L.toNat * a) (padM k L))
  have pc : (lowsOf (shN (L.toNat * b) (padM h L)) L).Perm (lowsOf (shN (L.toNat * a) (padM k L)) L) := by
    refine heapOf_inj cX.beads cY.beads (by rw [lowsOf_len, lowsOf_len, hXY]) ?_
    rw [← core_of_beads hL BX cX, ← core_of_beads hL BY cY, hX, hY, hc]
  have pp : (shN (L.toNat * b) (padM h L)).Perm (shN (L.toNat * a) (padM k L)) := by
    refine perm_of_cl hL BX BY fun r h0 h1 => ?_
    have hr : 0 ≤ r ∧ r < L := ⟨h0, h1⟩
    refine heapOf_inj (cl_beads BX hL r) (cl_beads BY hL r) ?_ ?_
    · rw [cl_len, cl_len, ← core_cnt hL hr cX, ← core_cnt hL hr cY, cnt_perm pc]
    · rw [heapOf_congr (cl_shN Bh hL hr b), heapOf_congr (cl_shN Bk hL hr a), heapOf_shN (cl_beads Bh hL r), heapOf_shN (cl_beads Bk hL r)]
      exact hp r h0 h1
  rw [← hX, ← hY]
  exact heapOf_congr pp

theorem sum_upd (f g : Nat → Int) (k : Nat) (d : Int) (hk : g k = f k + d) (h : ∀ i, i ≠ k → g i = f i) : ∀ n, ((List.range n).map g).sum = ((List.range n).map f).sum + if k < n then d else 0
  | 0 => by simp
  | n + 1 => by
    rw [List.range_succ, List.map_append, List.map_append, List.sum_append, List.sum_append, sum_upd f g k d hk h n]
    simp only [List.map_cons, List.map_nil, List.sum_cons, List.sum_nil]
    by_cases e : n = k
    · subst e
      rw [if_neg (by omega), if_pos (by omega), hk]
      omega
    · rw [h n e]
      by_cases q : k < n
      · rw [if_pos q, if_pos (by omega)]
        omega
      · rw [if_neg q, if_neg (by omega)]
        omega
theorem cl_append (M N : List Int) (L r : Int) : cl (M ++ N) L r = cl M L r ++ cl N L r := by
  unfold cl
  rw [List.filter_append, List.map_append]
theorem many_class {L : Int} (hL : 0 < L) : ∀ (n : Nat) (M : List Int), M.length = n → manyOf M L = ((List.range L.toNat).map fun (r : Nat) => (cl M L r).sum - tri (cnt M L r)).sum := by
  intro n
  induction n with
  | zero =>
    intro M h
    cases List.length_eq_zero_iff.mp h
    have e : ((List.range L.toNat).map fun (r : Nat) => (cl [] L (r : Int)).sum - tri (cnt [] L (r : Int))) = (List.range L.toNat).map fun _ => (0 : Int) := by
      refine List.map_congr_left fun r _ => ?_
      rfl
    rw [e]
    generalize L.toNat = m
    show (0 : Int) = _
    induction m with
    | zero => rfl
    | succ m ih => rw [List.range_succ, List.map_append, List.sum_append, ← ih]; rfl
  | succ n ih =>
    intro M h
    have hne : M ≠ [] := by
      intro e
      rw [e] at h
      cases h
    rw [← List.dropLast_concat_getLast hne]
    have hl : M.dropLast.length = n := by rw [List.length_dropLast]; omega
    generalize M.dropLast = N at hl
    generalize M.getLast hne = x
    rw [manyOf_snoc, ih N hl]
    have hr := rest_ok hL x
    have hk : (((x % L).toNat : Nat) : Int) = x % L := by omega
    rw [sum_upd (fun (r : Nat) => (cl N L r).sum - tri (cnt N L r)) (fun (r : Nat) => (cl (N ++ [x]) L r).sum - tri (cnt (N ++ [x]) L r)) (x % L).toNat (x / L - (cnt N L (x % L) : Int)) ?_ ?_, if_pos (by omega)]
    · omega
    · show (cl (N ++ [x]) L (((x % L).toNat : Nat) : Int)).sum - tri (cnt (N ++ [x]) L (((x % L).toNat : Nat) : Int)) = (cl N L (((x % L).toNat : Nat) : Int)).sum - tri (cnt N L (((x % L).toNat : Nat) : Int)) + _
      rw [hk, cl_append, cnt_append, List.sum_append]
      have e1 : cl [x] L (x % L) = [x / L] := by simp [cl]
      have e2 : cnt [x] L (x % L) = 1 := by simp [cnt]
      rw [e1, e2]
      show _ - (tri (cnt N L (x % L)) + (cnt N L (x % L) : Int)) = _
      simp only [List.sum_cons, List.sum_nil]
      omega
    · intro i hi
      have hi2 : ¬ x % L = (i : Int) := by omega
      show (cl (N ++ [x]) L (i : Int)).sum - tri (cnt (N ++ [x]) L (i : Int)) = _
      rw [cl_append, cnt_append]
      have e1 : cl [x] L (i : Int) = [] := by simp [cl, hi2]
      have e2 : cnt [x] L (i : Int) = 0 := by simp [cnt, hi2]
      rw [e1, e2, List.append_nil]
      rfl
theorem many_parts {L : Int} (hL : 0 < L) {M : List Int} (B : Beads M) : manyOf M L = ((List.range L.toNat).map fun (r : Nat) => (heapOf (cl M L r)).sum).sum := by
  rw [many_class hL _ M rfl]
  congr 1
  refine List.map_congr_left fun r _ => ?_
  rw [heapOf_sum (cl_beads B hL r), cl_len]
theorem rims_parts {L : Int} (hL : 0 < L) {h : List Int} (H : IsHeap h) : rimsIn h L = ((partsOf h L).map List.sum).sum := by
  have e := rims_of_beads hL (padM_beads H L)
  rw [padM_heap H] at e
  rw [e, many_parts hL (padM_beads H L)]
  unfold partsOf partOf
  rw [List.map_map]
  rfl

def deepOf (ps : List (List Int)) : Nat := (ps.map List.length).foldr max 0
theorem deep_le {ps : List (List Int)} {p : List Int} (h : p ∈ ps) : p.length ≤ deepOf ps := by
  unfold deepOf
  induction ps with
  | nil => cases h
  | cons q r ih =>
    rw [List.map_cons, List.foldr_cons]
    rcases List.mem_cons.mp h with rfl | h
    · exact Nat.le_max_left _ _
    · exact Nat.le_trans (ih h) (Nat.le_max_right _ _)
theorem deep_bound {ps : List (List Int)} {b : Nat} (h : ∀ p ∈ ps, p.length ≤ b) : deepOf ps ≤ b := by
  unfold deepOf
  induction ps with
  | nil => exact Nat.zero_le _
  | cons q r ih =>
    rw [List.map_cons, List.foldr_cons]
    exact Nat.max_le.mpr ⟨h q List.mem_cons_self, ih fun p hp => h p (List.mem_cons_of_mem _ hp)⟩
theorem deep_mem {ps : List (List Int)} (h : ps ≠ []) : ∃ p ∈ ps, p.length = deepOf ps := by
  unfold deepOf
  induction ps with
  | nil => exact absurd rfl h
  | cons q r ih =>
    rw [List.map_cons, List.foldr_cons]
    by_cases hr : r = []
    · subst hr
      exact ⟨q, List.mem_cons_self, by simp⟩
    · obtain ⟨p, hp, e⟩ := ih hr
      by_cases c : (r.map List.length).foldr max 0 ≤ q.length
      · exact ⟨q, List.mem_cons_self, (Nat.max_eq_left c).symm⟩
      · exact ⟨p, List.mem_cons_of_mem _ hp, by rw [e]; exact (Nat.max_eq_right (by omega)).symm⟩
/-- the marks of each part, in rows as many as the core has of the rest -/
def rowJ (N : List Int) (L : Int) (r : Nat) (p : List Int) : List Int := p ++ zeros (cnt N L r - p.length)
def marksJ (N : List Int) (L : Int) (r : Nat) (p : List Int) : List Int := (marksOf (rowJ N L r p)).map fun m => (r : Int) + L * m
def joinF (N : List Int) (L : Int) : Nat → List (List Int) → List Int
  | _, [] => []
  | r, p :: ps => marksJ N L r p ++ joinF N L (r + 1) ps
theorem joinF_snoc (N : List Int) (L : Int) (p : List Int) : ∀ (ps : List (List Int)) (r : Nat), joinF N L r (ps ++ [p]) = joinF N L r ps ++ marksJ N L (r + ps.length) p
  | [], r => by simp [joinF]
  | q :: ps, r => by
    show marksJ N L r q ++ joinF N L (r + 1) (ps ++ [p]) = marksJ N L r q ++ joinF N L (r + 1) ps ++ _
    rw [joinF_snoc N L p ps (r + 1), List.append_assoc, List.length_cons]
    congr 3
    omega
def toldJ (left : List Int) (ps : List (List Int)) (L : Int) : List Int := pad left (padN left L + L.toNat * deepOf ps)
def joinM (left : List Int) (ps : List (List Int)) (L : Int) : List Int := heapOf (joinF (toldJ left ps L) L 0 ps)
theorem cl_marksJ {N p : List Int} {L : Int} {r : Nat} (h : (r : Int) < L) (s : Nat) : cl (marksJ N L r p) L s = if s = r then marksOf (rowJ N L r p) else [] := by
  unfold marksJ
  generalize marksOf (rowJ N L r p) = R
  unfold cl
  induction R with
  | nil => simp
  | cons m R ih =>
    obtain ⟨a, b⟩ := qr (show (0 : Int) ≤ (r : Int) by omega) h (show (r : Int) + L * m = L * m + r by omega)
    rw [List.map_cons, List.filter_cons]
    by_cases e : s = r
    · subst e
      rw [if_pos (by rw [b]; simp), List.map_cons, ih, if_pos rfl, if_pos rfl, a]
    · rw [if_neg (by rw [b]; simp; omega), ih, if_neg e, if_neg e]
theorem cl_joinF {N : List Int} {L : Int} : ∀ (ps : List (List Int)) (r : Nat), ((r + ps.length : Nat) : Int) ≤ L → ∀ s : Nat, cl (joinF N L r ps) L s = if r ≤ s then ((ps[s - r]?).map fun p => marksOf (rowJ N L s p)).getD [] else []
  | [], r, _, s => by simp [joinF, cl]
  | p :: ps, r, h, s => by
    rw [List.length_cons] at h
    show cl (marksJ N L r p ++ joinF N L (r + 1) ps) L s = _
    rw [cl_append, cl_marksJ (by omega), cl_joinF ps (r + 1) (by omega)]
    by_cases e : s = r
    · subst e
      rw [if_pos rfl, if_neg (by omega), if_pos (Nat.le_refl _), Nat.sub_self, List.append_nil]
      rfl
    · rw [if_neg e, List.nil_append]
      by_cases q : r ≤ s
      · rw [if_pos (by omega), if_pos q]
        have e2 : s - r = (s - (r + 1)) + 1 := by omega
        rw [e2, List.getElem?_cons_succ]
      · rw [if_neg (by omega), if_neg q]
theorem count_cl (L x : Int) : ∀ M : List Int, M.count x ≤ (cl M L (x % L)).count (x / L)
  | [] => by simp [cl]
  | m :: M => by
    have ih := count_cl L x M
    have e : cl (m :: M) L (x % L) = cl [m] L (x % L) ++ cl M L (x % L) := cl_append [m] M L _
    rw [e, List.count_append, List.count_cons]
    by_cases q : m = x
    · subst q
      have e1 : cl [m] L (m % L) = [m / L] := by simp [cl]
      rw [e1]
      simp
      omega
    · have : (m == x) = false := by simpa using q
      rw [this]
      simp
      omega
theorem beads_of_cl {M : List Int} {L : Int} (hL : 0 < L) (h : ∀ r, 0 ≤ r → r < L → Beads (cl M L r)) : Beads M := by
  refine ⟨List.nodup_iff_count.mpr fun x => ?_, fun x hx => ?_⟩
  · have hr := rest_ok hL x
    exact Nat.le_trans (count_cl L x M) (List.nodup_iff_count.mp (h _ hr.1 hr.2).nd _)
  · have hr := rest_ok hL x
    have hq : x / L ∈ cl M L (x % L) := by
      rw [mem_cl hr, ← qr_of]
      exact hx
    have := (h _ hr.1 hr.2).nn _ hq
    have e := qr_of L x
    have := Int.mul_nonneg (Int.le_of_lt hL) this
    omega
structure Joins (k left : List Int) (ps : List (List Int)) (L : Int) : Prop where
  heap : IsHeap k
  core : coreOf k L = left
  parts : partsOf k L = ps
  len : k.length ≤ left.length + padN left L + L.toNat * deepOf ps
theorem join_ok {left : List Int} {ps : List (List Int)} {L : Int} (hL : 0 < L) (H : IsHeap left) (hc : rimsH left L = []) (hl : ((ps.length : Nat) : Int) = L) (hp : ∀ p ∈ ps, IsHeap p) :
    Joins (joinM left ps L) left ps L ∧ (joinF (toldJ left ps L) L 0 ps).length = left.length + padN left L + L.toNat * deepOf ps := by
  have BN : Beads (toldJ left ps L) := pad_beads H _
  have hN : heapOf (toldJ left ps L) = left := heapOf_pad H _
  have hNl : (toldJ left ps L).length = left.length + padN left L + L.toNat * deepOf ps := by
    unfold toldJ
    rw [pad_len]
    omega
  have hdeep : ∀ r, 0 ≤ r → r < L → deepOf ps ≤ cnt (toldJ left ps L) L r := fun r h0 h1 => by
    rw [← cl_len]
    unfold toldJ
    rw [pad_shN, (cl_shN (pad_beads H _) hL ⟨h0, h1⟩ _).length_eq, shN_len]
    omega
  have hclo : Closed (toldJ left ps L) L := by
    rw [← many_zero hL BN, ← rims_of_beads hL BN, hN]
    exact (rims_none H hL).mp hc
  have cN := hclo.core hL BN
  unfold joinM
  generalize toldJ left ps L = N at BN hN hNl hdeep hclo cN
  have hcl : ∀ (r : Nat) (h : (r : Int) < L), ∃ p, ps[r]? = some p ∧ p ∈ ps ∧ cl (joinF N L 0 ps) L r = pad p (cnt N L r - p.length) := fun r h => by
    have h2 : r < ps.length := by omega
    refine ⟨ps[r], List.getElem?_eq_getElem h2, List.getElem_mem h2, ?_⟩
    rw [cl_joinF ps 0 (by omega), if_pos (Nat.zero_le _), Nat.sub_zero, List.getElem?_eq_getElem h2]
    rfl
  have hB : ∀ r, 0 ≤ r → r < L → Beads (cl (joinF N L 0 ps) L r) := fun r h0 h1 => by
    obtain ⟨p, _, hm, e⟩ := hcl r.toNat (by omega)
    have er : ((r.toNat : Nat) : Int) = r := by omega
    rw [er] at e
    rw [e]
    exact pad_beads (hp p hm) _
  have BF := beads_of_cl hL hB
  have hcnt : ∀ r, 0 ≤ r → r < L → cnt (joinF N L 0 ps) L r = cnt N L r := fun r h0 h1 => by
    obtain ⟨p, _, hm, e⟩ := hcl r.toNat (by omega)
    have er : ((r.toNat : Nat) : Int) = r := by omega
    rw [er] at e
    have h3 := deep_le hm
    have h4 := hdeep r h0 h1
    rw [← cl_len, e, pad_len]
    omega
  have cF : IsCore N (joinF N L 0 ps) L := ⟨BN.nd, fun x => by
    have hr := rest_ok hL x
    rw [cN.mem]
    unfold Low
    rw [hcnt _ hr.1 hr.2]⟩
  have hFl : (joinF N L 0 ps).length = N.length := by
    rw [← lowsOf_len (joinF N L 0 ps) L]
    exact ((lowsOf_core hL _).perm cF (List.Perm.refl _)).length_eq
  have hmod : (((joinF N L 0 ps).length : Nat) : Int) % L = 0 := by
    rw [hFl, hNl]
    have e := padM_len (h := left) hL
    rw [padM_size] at e
    have e2 : ((left.length + padN left L + L.toNat * deepOf ps : Nat) : Int) = ((left.length + padN left L : Nat) : Int) + L * (deepOf ps : Int) := by
      rw [Int.natCast_add, Int.natCast_mul]
      congr 2
      omega
    rw [e2, Int.add_mul_emod_self_left]
    exact e
  have hk := beads_pad BF
  refine ⟨⟨hk.1, ?_, ?_, ?_⟩, ?_⟩
  · rw [core_of_beads hL BF cF, hN]
  · unfold partsOf
    refine List.ext_getElem? fun i => ?_
    rw [List.getElem?_map]
    by_cases hi : i < L.toNat
    · obtain ⟨p, h1, hm, e⟩ := hcl i (by omega)
      rw [List.getElem?_range hi, h1]
      show some (partOf (heapOf (joinF N L 0 ps)) L (i : Int)) = some p
      rw [← part_of_beads BF hL ⟨by omega, by omega⟩ hmod, e, heapOf_pad (hp p hm)]
    · rw [List.getElem?_eq_none (by rw [List.length_range]; omega), List.getElem?_eq_none (by omega)]
      rfl
  · rw [← hNl, ← hFl]
    exact hk.2.1
  · rw [hFl, hNl]
theorem partsOf_len {h : List Int} {L : Int} (hL : 0 < L) : (((partsOf h L).length : Nat) : Int) = L := by
  unfold partsOf
  rw [List.length_map, List.length_range]
  omega
theorem partOf_heap {h : List Int} (H : IsHeap h) {L : Int} (hL : 0 < L) (r : Int) : IsHeap (partOf h L r) := (beads_pad (cl_beads (padM_beads H L) hL r)).1
theorem partsOf_heap {h : List Int} (H : IsHeap h) {L : Int} (hL : 0 < L) : ∀ p ∈ partsOf h L, IsHeap p ∧ p.length ≤ h.length + padN h L := fun p hp => by
  obtain ⟨r, _, rfl⟩ := List.mem_map.mp hp
  refine ⟨partOf_heap H hL r, ?_⟩
  have h1 := (beads_pad (cl_beads (padM_beads H L) hL (r : Int))).2.1
  have h2 := cnt_le (padM h L) L (r : Int)
  rw [cl_len] at h1
  rw [padM_size] at h2
  exact Nat.le_trans h1 h2
/-- the core and the parts of a heap, joined -/
theorem join_back {h : List Int} {L : Int} (hL : 0 < L) (H : IsHeap h) : joinM (coreOf h L) (partsOf h L) L = h := by
  have hc : rimsH (coreOf h L) L = [] := (rims_none (coreOf_heap hL h) hL).mpr (core_core H hL).2
  obtain ⟨j, _⟩ := join_ok hL (coreOf_heap hL h) hc (partsOf_len hL) fun p hp => (partsOf_heap H hL p hp).1
  refine parts_inj j.heap H hL j.core fun r h0 h1 => ?_
  have e := congrArg (fun l => l[r.toNat]?) j.parts
  have e2 : ∀ k : List Int, (partsOf k L)[r.toNat]? = some (partOf k L r) := fun k => by
    unfold partsOf
    rw [List.getElem?_map, List.getElem?_range (by omega)]
    show some (partOf k L ((r.toNat : Nat) : Int)) = _
    congr 2
    omega
  simp only [e2] at e
  exact Option.some.inj e
end Rh

namespace Rh
open PySem PySem.Spec PyProof.Rows L2 Evl

def runM (L : Int) : List Int → List Int → Option (List Int)
  | h, [] => some h
  | h, r :: rs => if r ∈ rimsH h L then runM L (behindOf h L r.toNat) rs else none
def dueM (h : List Int) (L : Int) (rows left : List Int) : Bool :=
  match runM L h rows with
  | none => false
  | some now => decide (now = left) && decide (rimsH now L = [])
theorem runM_append (L : Int) : ∀ (r s h : List Int), runM L h (r ++ s) = (runM L h r).bind fun m => runM L m s
  | [], s, h => rfl
  | x :: r, s, h => by
    show (if x ∈ rimsH h L then runM L (behindOf h L x.toNat) (r ++ s) else none) = _
    rw [runM_append L r s]
    show _ = (if x ∈ rimsH h L then runM L (behindOf h L x.toNat) r else none).bind _
    split <;> rfl
theorem runM_snoc {L n : Int} {r h m : List Int} (h1 : runM L h r = some m) (h2 : n ∈ rimsH m L) : runM L h (r ++ [n]) = some (behindOf m L n.toNat) := by
  rw [runM_append, h1]
  show (if n ∈ rimsH m L then runM L (behindOf m L n.toNat) [] else none) = _
  rw [if_pos h2]
  rfl
theorem runM_bad {L n : Int} {r s h m : List Int} (h1 : runM L h r = some m) (h2 : n ∉ rimsH m L) : runM L h (r ++ n :: s) = none := by
  rw [runM_append, h1]
  show (if n ∈ rimsH m L then _ else none) = _
  rw [if_neg h2]
theorem runM_pre {L : Int} {r s h m : List Int} (h1 : runM L h (r ++ s) = some m) : ∃ k, runM L h r = some k := by
  rw [runM_append] at h1
  cases e : runM L h r with
  | none =>
    rw [e] at h1
    cases h1
  | some k => exact ⟨k, rfl⟩
theorem rim_row {h : List Int} {L r : Int} (hr : r ∈ rimsH h L) : ∃ i : Nat, r = i ∧ i < h.length ∧ IsRim (marksOf h) L i := by
  obtain ⟨i, e, hi⟩ := mem_rimsM.mp hr
  have := rim_lt hi
  rw [marksOf_len] at this
  exact ⟨i, e, this, hi⟩
theorem behind_len (h : List Int) (L : Int) (i : Nat) : (behindOf h L i).length ≤ h.length := by
  refine Nat.le_trans (heapOf_len _) ?_
  rw [dropAt_len, marksOf_len]
  exact Nat.le_refl _
theorem runM_len {L : Int} : ∀ {r h m : List Int}, runM L h r = some m → m.length ≤ h.length
  | [], h, m, e => by
    cases e
    exact Nat.le_refl _
  | x :: r, h, m, e => by
    unfold runM at e
    split at e
    · exact Nat.le_trans (runM_len e) (behind_len _ _ _)
    · cases e
theorem due_some {h m left rows : List Int} {L : Int} (e : runM L h rows = some m) : dueM h L rows left = (decide (m = left) && decide (rimsH m L = [])) := by
  unfold dueM
  rw [e]
theorem due_none {h left rows : List Int} {L : Int} (e : runM L h rows = none) : dueM h L rows left = false := by
  unfold dueM
  rw [e]

structure GoneT (K : PySem.W.Frag) (mg : Str → Option Value) (C CA : Addr) : Prop where
  cl : Cls K C
  nR : NoAttr K C "rows"
  nL : NoAttr K C "left"
  mgC : mg "Gone" = some (.ref C)
  mgA : mg "Answer" = some (.ref CA)
  hc : PySem.W.findIn K (.ref C) "__class__" = some (some (.builtin "object.__class__"))
  hg : PySem.W.specialIn K (.builtin "object.__class__") "__get__" = some (some (.builtin "getset_descriptor.__get__"))
  ht : PySem.W.takesIn K (.builtin "object.__class__") = some true
  hm : PySem.W.mroIn K C (.type "object") = some true
  iA : PySem.W.kitOne K (.ref C) (.ref CA) = some true
structure MkD (P : Program) (w : World) (K : PySem.W.Frag) (mg : Str → Option Value) (base : Heap) (CX : CXT) (k : Nat) (C f : Addr) (fd : FuncData) (ps : List Str) (sp : Sp) : Prop where
  made : Mk K C f
  ok : FnOk P w K mg base CX k f fd ps sp
  bd : Binds K fd ps []
structure MthD (P : Program) (w : World) (K : PySem.W.Frag) (mg : Str → Option Value) (base : Heap) (CX : CXT) (k : Nat) (C : Addr) (m : Str) (f : Addr) (fd : FuncData) (ps : List Str) (sp : Sp) : Prop where
  me : Meth K C m f
  ok : FnOk P w K mg base CX k f fd ps sp
  bd : Binds K fd ps []
theorem pe_mkd {X : Cx} {CX : CXT} {k j : Nat} {C f : Addr} {fd : FuncData} {ps : List Str} {sp : Sp} {E : XK} {x : Str} {p pos : Pos} {e : Expr} {es : List Expr} {t : TA}
    (D : MkD X.prog X.w X.K X.mg X.base CX j C f fd ps sp) (hr : Room k X.A) (hj : j + 1 ≤ k) (hg : Gl X x) (hm : X.mg x = some (.ref C)) (hx : Passes CX X E) (ha : PA X (e :: es) t)
    (hd : (x == ("__debug__" : Str)) = false := by decide)
    (he : starEach (e :: es) X.env = (false, eval e X.env) :: starEach es X.env := by rfl) (hpl : (backTo pos (starEach es X.env)).any (·.1) = false := by rfl) :
    PE X (.Call (.Name x p) (e :: es) [] pos) (tMake C sp [] E t) := pe_make D.made D.ok (hr.mono hj) hg hm D.bd .nil hx ha (hdb := hd) (he := he) (hpl := hpl)
theorem pe_mtd {X : Cx} {CX : CXT} {k j : Nat} {C f : Addr} {fd : FuncData} {ps : List Str} {sp : Sp} {E : XK} {m : Str} {pos apos : Pos} {o e : Expr} {es : List Expr} {ta : TE} {t : TA} {pl : Sem Bool}
    (D : MthD X.prog X.w X.K X.mg X.base CX j C m f fd ps sp) (c : Cls X.K C) (ho : PE X o ta) (hr : Room k X.A) (hj : j ≤ k) (hx : Passes CX X E) (ha : PA X (e :: es) t)
    (hst : starEach (e :: es) X.env = (false, eval e X.env) :: starEach es X.env := by rfl) (hpl : (backTo pos (starEach es X.env)).any (·.1) = false := by rfl)
    (ht : eval (.Call (.Attribute o m apos) (e :: es) [] pos) X.env = (do
      let ov ← eval o X.env
      standAt apos.atName
      let (f, first) ← holding [ov] (getMethod ov m pl)
      callWith pos f first (backTo pos (starEach (e :: es) X.env)) (backToKw pos (keywordEach [] X.env))) := by rfl) :
    PE X (.Call (.Attribute o m apos) (e :: es) [] pos) (tMeth C m sp [] E ta t) := pe_meth ho c D.me D.ok (hr.mono hj) D.bd .nil hx ha (hst := hst) (hpl := hpl) (ht := ht)
theorem sq_other {K : PySem.W.Frag} {H : Hp} {x b C dx : Addr} {fs gs : List (Str × V)} {xs : List V} (h : SqL K H b xs) (hx : H x = some (.ins C dx fs)) : SqL K (upd H x (.ins C dx gs)) b xs := by
  rcases h with (h | ⟨o, h⟩) | h
  · exact .inl (.inl (by rw [upd_ne (fun z => by rw [z, hx] at h; cases h)]; exact h))
  · exact .inl (.inr ⟨o, by rw [upd_ne (fun z => by rw [z, hx] at h; cases h)]; exact h⟩)
  · exact .inr h
theorem kRL : ¬ (("rows" : Str) = "left") := by decide +kernel
def gf (pr pl : Addr) : List (Str × V) := putF "left" (.ref pl) (putF "rows" (.ref pr) [])
theorem gf_rows (pr pl : Addr) : (gf pr pl).lookup ("rows" : Str) = some (.ref pr) := by
  unfold gf
  rw [lookup_putF, if_neg kRL, lookup_putF, if_pos rfl]
theorem gf_left (pr pl : Addr) : (gf pr pl).lookup ("left" : Str) = some (.ref pl) := by
  unfold gf
  rw [lookup_putF, if_pos rfl]
theorem gf_shows (pr pl : Addr) : (gf pr pl).lookup ("shows" : Str) = none := by
  unfold gf
  rw [lookup_putF, if_neg (by decide +kernel), lookup_putF, if_neg (by decide +kernel)]
  rfl
def GoneAt (C : Addr) (H : Hp) (x pr pl : Addr) : Prop := ∃ dx, H x = some (.ins C dx (gf pr pl))
theorem GoneAt.ex {C x pr pl : Addr} {H H' : Hp} (g : GoneAt C H x pr pl) (e : Ex H H') : GoneAt C H' x pr pl := let ⟨dx, h⟩ := g; ⟨dx, e _ _ h⟩
/-- a value that is a list of ints at an address, of some kind -/
def EvN (te : TE) (σ : L2.St) (H : Hp) (Good : List Int → Prop) : Prop := ∀ H1, Ex H H1 → ∀ Q : VK, (∀ p ns H2, Ex H1 H2 → H2 p = some (.lst (ns.map V.int)) → Good ns → Q (.ref p) H2) → te σ H1 Q
def EvAN (ta : TA) (σ : L2.St) (H : Hp) (Good : List Int → Prop) : Prop := ∀ H1, Ex H H1 → ∀ Q : List V → Hp → Prop, (∀ (vs : List V) H2, Ex H1 H2 → vs.length ≤ 100 → (∀ v ∈ vs, ∃ p ns, v = V.ref p ∧ H2 p = some (.lst (ns.map V.int)) ∧ Good ns) → Q vs H2) → ta σ H1 Q
section
variable {K : PySem.W.Frag} {mg : Str → Option Value} {σ : L2.St} {H H' : Hp} {ta tb tc te tx tl : TE} {t u : TT} {x y z v : V} {i j l : Int} {a b C CA g pr pl : Addr} {ns hs ms xs rs ls : List Int} {D : Ends} {tu tw tz : TS} {tg : TA} {E : XK} {Good : List Int → Prop}
theorem EvN.mono (e : Ex H H') (h : EvN te σ H Good) : EvN te σ H' Good := fun H1 a Q q => h H1 (e.trans a) Q q
theorem en_new (h : EvL te σ H (ns.map V.int)) (hg : Good ns) : EvN te σ H Good := fun H1 e Q q => h H1 e _ fun p H2 _ e2 h2 => q p ns H2 e2 h2 hg
theorem en_old (h : Ev te σ H (.ref a)) (ha : H a = some (.lst (ns.map V.int))) (hg : Good ns) : EvN te σ H Good := fun H1 e Q q => h H1 e _ fun H2 e2 => q a ns H2 e2 ((e.trans e2) _ _ ha) hg
theorem ean_nil : EvAN tNil σ H Good := fun H1 _ _ q => q [] H1 (Ex.refl H1) (Nat.zero_le _) fun _ h => by cases h
/-- few of them: 4 at most are met -/
theorem ean_one (h : EvN ta σ H Good) : EvAN (tCons ta tNil) σ H Good := fun H1 e Q q => h H1 e _ fun p ns H2 e2 h2 hg => q [.ref p] H2 e2 (Nat.le_of_ble_eq_true rfl) fun v hv => by
  rcases List.mem_cons.mp hv with rfl | hv
  · exact ⟨p, ns, rfl, h2, hg⟩
  · cases hv
theorem ean_two (h : EvN ta σ H Good) (h2 : EvN tb σ H Good) : EvAN (tCons ta (tCons tb tNil)) σ H Good := fun H1 e Q q => h H1 e _ fun p ns H2 e2 q2 g2 => h2 H2 (e.trans e2) _ fun r ms H3 e3 q3 g3 => q [.ref p, .ref r] H3 (e2.trans e3) (Nat.le_of_ble_eq_true rfl) fun v hv => by
  rcases List.mem_cons.mp hv with rfl | hv
  · exact ⟨p, ns, rfl, e3 _ _ q2, g2⟩
  · rcases List.mem_cons.mp hv with rfl | hv
    · exact ⟨r, ms, rfl, q3, g3⟩
    · cases hv
theorem ean_four {td : TE} (h : EvN ta σ H Good) (h2 : EvN tb σ H Good) (h3 : EvN tc σ H Good) (h4 : EvN td σ H Good) : EvAN (tCons ta (tCons tb (tCons tc (tCons td tNil)))) σ H Good := fun H1 e Q q => h H1 e _ fun p ns H2 e2 q2 g2 => h2 H2 (e.trans e2) _ fun r ms H3 e3 q3 g3 =>
  h3 H3 ((e.trans e2).trans e3) _ fun s ks H4 e4 q4 g4 => h4 H4 (((e.trans e2).trans e3).trans e4) _ fun o os H5 e5 q5 g5 => q [.ref p, .ref r, .ref s, .ref o] H5 (((e2.trans e3).trans e4).trans e5) (Nat.le_of_ble_eq_true rfl) fun v hv => by
  rcases List.mem_cons.mp hv with rfl | hv
  · exact ⟨p, ns, rfl, e5 _ _ (e4 _ _ (e3 _ _ q2)), g2⟩
  · rcases List.mem_cons.mp hv with rfl | hv
    · exact ⟨r, ms, rfl, e5 _ _ (e4 _ _ q3), g3⟩
    · rcases List.mem_cons.mp hv with rfl | hv
      · exact ⟨s, ks, rfl, e5 _ _ q4, g4⟩
      · rcases List.mem_cons.mp hv with rfl | hv
        · exact ⟨o, os, rfl, q5, g5⟩
        · cases hv
/-- for x in (lists of ints) -/
theorem s_forAN {k : Nat} (h : EvAN tg σ H Good) (Pv : Hp → L2.St → Hp → Prop) (hE : ∀ H0 σ' H', Pv H0 σ' H' → Ex H0 H') (h0 : ∀ H1, Ex H H1 → Pv H1 σ H1)
    (hs : ∀ H0 p ns σ' H', Good ns → Ex H H0 → H0 p = some (.lst (ns.map V.int)) → Pv H0 σ' H' → tu { D with nx := Pv H0, ct := Pv H0, bk := D.nx } (σ'.set k (some (.ref p))) H') (hd : ∀ H0 σ' H', Ex H H0 → Pv H0 σ' H' → D.nx σ' H') : tFor (iTup K (tTup tg)) (gName k) tu D σ H :=
  h H (Ex.refl H) _ fun vs H1 e hl hv => ⟨Nat.le_trans hl (by decide), fun T hT => ⟨T, rfl, ⟨_, .inl (.inl upd_same)⟩,
    for_tup (xs := vs) (fun _ => Pv (upd H1 T (.tup vs))) (h0 _ (e.trans (Ex.new hT))) (fun i σ' H' _ q => .inl (.inl (hE _ _ _ q _ _ upd_same))) (fun i x σ' H' hi q => by
      obtain ⟨p, ns, rfl, hp, hg⟩ := hv x (List.mem_of_getElem? hi)
      exact hs _ p ns σ' H' hg (e.trans (Ex.new hT)) (Ex.new hT _ _ hp) q) (fun σ' H' q => hd _ σ' H' (e.trans (Ex.new hT)) q)⟩⟩
theorem q_forAN {k : Nat} (h : EvAN tg σ H Good) (Pv : Hp → L2.St → Hp → Prop) (hE : ∀ H0 σ' H', Pv H0 σ' H' → Ex H0 H') (h0 : ∀ H1, Ex H H1 → Pv H1 σ H1)
    (hs : ∀ H0 p ns σ' H', Good ns → Ex H H0 → H0 p = some (.lst (ns.map V.int)) → Pv H0 σ' H' → tu { D with nx := Pv H0, ct := Pv H0, bk := tz D } (σ'.set k (some (.ref p))) H') (hd : ∀ H0 σ' H', Ex H H0 → Pv H0 σ' H' → tz D σ' H') : tSeq (tFor (iTup K (tTup tg)) (gName k) tu) tz D σ H :=
  s_forAN (D := { D with nx := tz D }) h Pv hE h0 hs hd
/-- fields -/
theorem ev_rows (T : GoneT K mg C CA) (h : Ev ta σ H (.ref g)) (hg : GoneAt C H g pr pl) : Ev (tFld K ta "rows") σ H (.ref pr) := fun H1 e Q q => h H1 e _ fun H2 e2 =>
  let ⟨dx, hx⟩ := hg
  ⟨g, C, dx, _, _, rfl, (e.trans e2) _ _ hx, T.cl, T.nR, gf_rows _ _, q H2 e2⟩
theorem ev_left (T : GoneT K mg C CA) (h : Ev ta σ H (.ref g)) (hg : GoneAt C H g pr pl) : Ev (tFld K ta "left") σ H (.ref pl) := fun H1 e Q q => h H1 e _ fun H2 e2 =>
  let ⟨dx, hx⟩ := hg
  ⟨g, C, dx, _, _, rfl, (e.trans e2) _ _ hx, T.cl, T.nL, gf_left _ _, q H2 e2⟩
theorem ev_isG (T : GoneT K mg C CA) (h : Ev ta σ H (.ref g)) (hg : GoneAt C H g pr pl) : Ev (tCB (rIsi K) (tCons ta (tCons (tC (.ref C)) tNil))) σ H (.bl true) := fun H1 e Q q => h H1 e _ fun H2 e2 =>
  let ⟨dx, hx⟩ := hg
  ⟨.ref g, .ref C, .ref C, .ref C, true, rfl, .own C, .base (.ins ((e.trans e2) _ _ hx) T.cl T.hc T.hg T.ht T.hm), by unfold PySem.W.kitOne; rw [if_pos (beq_self_eq_true _)], q H2 e2⟩
theorem ev_isA (T : GoneT K mg C CA) (h : Ev ta σ H (.ref g)) (hg : GoneAt C H g pr pl) : Ev (tCB (rIsi K) (tCons ta (tCons (tC (.ref CA)) tNil))) σ H (.bl true) := fun H1 e Q q => h H1 e _ fun H2 e2 =>
  let ⟨dx, hx⟩ := hg
  ⟨.ref g, .ref CA, .ref C, .ref CA, true, rfl, .own CA, .base (.ins ((e.trans e2) _ _ hx) T.cl T.hc T.hg T.ht T.hm), T.iA, q H2 e2⟩
end
section
variable (K : PySem.W.Frag) (C : Addr)
def sp_Gone_init : Sp := fun vs H Q _ => ∃ (x dx a b : Addr) (rs ls : List Int), vs = [.ref x, .ref a, .ref b] ∧ H x = some (.ins C dx []) ∧ SqL K H a (rs.map V.int) ∧ SqL K H b (ls.map V.int) ∧
  ∀ pr pl H', H pr = none → H pl = none → pr ≠ pl → (∀ c o, H c = some o → c ≠ x → H' c = some o) → H' x = some (.ins C dx (gf pr pl)) → H' pr = some (.lst (rs.map V.int)) → H' pl = some (.lst (ls.map V.int)) → Q .non H'
def sp_Gone_shows : Sp := fun vs H Q _ => ∃ (x pr pl a : Addr) (rs ls hs : List Int) (L : Int), vs = [.ref x, .ref a, .int L] ∧ GoneAt C H x pr pl ∧ SqL K H pr (rs.map V.int) ∧ SqL K H pl (ls.map V.int) ∧ SqL K H a (hs.map V.int) ∧ Len hs ∧ RetV (.bl (dueM hs L rs ls)) H Q
def sp_gone : Sp := fun vs H Q _ => ∃ (a : Addr) (hs : List Int) (L : Int), vs = [.ref a, .int L] ∧ SqL K H a (hs.map V.int) ∧ ((IsHeap hs ∧ Len hs) ∧ 1 ≤ L ∧ L.natAbs.log2 < 9000 ∧ rimsIn hs L ≤ 1000) ∧
  ∀ (x pr pl : Addr) (R : List Int) (H2 : Hp), H x = none → H pr = none → H pl = none → pr ≠ pl → Ex H H2 → GoneAt C H2 x pr pl → H2 pr = some (.lst (R.map V.int)) → H2 pl = some (.lst ((coreOf hs L).map V.int)) → runM L hs R = some (coreOf hs L) → ((R.length : Nat) : Int) = rimsIn hs L → Q (.ref x) H2
def sp_l_says : Sp := fun vs H Q _ => ∃ (b c : Bool), vs = [.bl b, .bl c] ∧ RetV (.bl (decide (b = c))) H Q
def sp_l_due : Sp := fun vs H Q _ => ∃ (a b c : Addr) (hs rs ls : List Int) (L : Int), vs = [.ref a, .int L, .ref b, .ref c] ∧ SqL K H a (hs.map V.int) ∧ SqL K H b (rs.map V.int) ∧ SqL K H c (ls.map V.int) ∧ Len hs ∧ RetV (.bl (dueM hs L rs ls)) H Q
def sp_l_turn : Sp := fun vs H Q _ => ∃ (a b : Addr) (ns hs : List Int) (L : Int), vs = [.ref a, .ref b, .int L] ∧ SqL K H a (ns.map V.int) ∧ SqL K H b (hs.map V.int) ∧ (Len ns ∧ (IsHeap hs ∧ Len hs) ∧ 1 ≤ L ∧ rimsIn hs L ≤ 1000) ∧
  ∀ (p pr pn : Addr) (R ms : List Int) (H2 : Hp), Ex H H2 → H2 p = some (.tup [.ref pr, .ref pn]) → H2 pr = some (.lst (R.map V.int)) → H2 pn = some (.lst (ms.map V.int)) → runM L hs R = some ms → R.length ≤ 1000 → Q (.ref p) H2
def sp_l_bent : Sp := fun vs H Q _ => ∃ (a : Addr) (ns : List Int) (i j : Int), vs = [.ref a, .int i, .int j] ∧ SqL K H a (ns.map V.int) ∧ ns.length ≤ 20000 ∧ ∀ (p : Addr) (ms : List Int) (H2 : Hp), Ex H H2 → H2 p = some (.lst (ms.map V.int)) → ms.length ≤ 30000 → Q (.ref p) H2
def sp_l_made_right : Sp := fun vs H Q _ => ∃ (a b c : Addr) (hs rs ls : List Int) (L : Int), vs = [.ref a, .int L, .ref b, .ref c] ∧ SqL K H a (hs.map V.int) ∧ H b = some (.lst (rs.map V.int)) ∧ SqL K H c (ls.map V.int) ∧ (Len hs ∧ rs.length ≤ 50000 ∧ ls.length ≤ 50000) ∧ RetV (.bl true) H Q
def sp_l_right4 : Sp := fun vs H Q _ => ∃ (a b : Addr) (ns hs : List Int) (L : Int), vs = [.ref a, .ref b, .int L] ∧ SqL K H a (ns.map V.int) ∧ SqL K H b (hs.map V.int) ∧ (Len ns ∧ (IsHeap hs ∧ hs.length ≤ 80) ∧ (1 ≤ L ∧ L ≤ 1000) ∧ rimsIn hs L ≤ 1000) ∧ RetV (.bl true) H Q
def sp_l_few_right : Sp := spLi K (fun hs L => Made hs ∧ Lgth L) fun _ _ => RetV (.bl true)
end
end Rh
namespace Rh
open PySem PySem.Spec PyProof.Rows L2 Evl
theorem atI_lastI {ns : List Int} (h : 0 < ns.length) : atI (ns.map V.int) (-1) = some (.int (ns.getD (ns.length - 1) 0)) := by
  have hne : ns ≠ [] := by
    intro e
    rw [e] at h
    cases h
  have e : ns.map V.int = ns.dropLast.map V.int ++ [.int (ns.getLast hne)] := by
    rw [← List.map_singleton, ← List.map_append, List.dropLast_concat_getLast]
  rw [e, atI_last]
  congr 2
  rw [List.getLast_eq_getElem, List.getD_eq_getElem?_getD, List.getElem?_eq_getElem (by omega)]
  rfl
end Rh

namespace Rh
open PySem PySem.Spec PyProof.Rows L2 Evl
section
variable {K : PySem.W.Frag} {mg : Str → Option Value} {σ : L2.St} {H H' : Hp} {ta tb tc td te tx tl : TE} {t u : TT} {x y z v : V} {i j l : Int} {a b c C CA g pr pl : Addr} {ns hs ms xs rs ls : List Int} {D : Ends} {tu tw tz : TS} {tg : TA} {E : XK} {Good : List Int → Prop} {L : Int}
theorem atI_snocI {n : Int} : atI ((ns ++ [n]).map V.int) (-1) = some (.int n) := by
  rw [List.map_append, List.map_singleton]
  exact atI_last _ _
/-- one list or another -/
theorem en_if {b : Bool} (h : EvT t σ H b) (h1 : b = true → EvN ta σ H Good) (h2 : b = false → EvN tb σ H Good) : EvN (tIf t ta tb) σ H Good := fun H1 e Q q => h H1 e _ fun H2 e2 => by
  cases b with
  | true =>
    show ta σ H2 Q
    exact h1 rfl H2 (e.trans e2) Q fun p ns H3 e3 => q p ns H3 (e2.trans e3)
  | false =>
    show tb σ H2 Q
    exact h2 rfl H2 (e.trans e2) Q fun p ns H3 e3 => q p ns H3 (e2.trans e3)
theorem s_retN (h : EvN te σ H Good) (q : ∀ p ns H1, Ex H H1 → H1 p = some (.lst (ns.map V.int)) → Good ns → D.rt (.ref p) H1) : tRet te D σ H := h H (Ex.refl H) _ q
/-- xs[i], xs[j] = xs[j], xs[i], of variables -/
theorem s_swapI {l : Addr} {nl n1 n2 : Nat} {j1 j2 : Nat} {m1 m2 : Int} (hl : H l = some (.lst (ns.map V.int))) (h1 : Ev ta σ H (.int m1)) (h2 : Ev tb σ H (.int m2)) (v0 : σ[nl]? = some (some (.ref l))) (v1 : σ[n1]? = some (some (.int (j1 : Nat)))) (v2 : σ[n2]? = some (some (.int (j2 : Nat))))
    (b1 : j1 < ns.length) (b2 : j2 < ns.length) (k : ∀ H2 (ms : List Int), (∀ H0, H0 l = none → Ex H0 H → Ex H0 H2) → H2 l = some (.lst (ms.map V.int)) → ms.length = ns.length → D.nx σ H2) :
    tAsg (tTup (tCons ta (tCons tb tNil))) (gTup K 2 (gCons (gSub (tVar nl) (tVar n1) rSetL) (gCons (gSub (tVar nl) (tVar n2) rSetL) gNil))) D σ H :=
  h1 H (Ex.refl H) _ fun H1 e1 => h2 H1 e1 _ fun H2 e2 => ⟨Nat.le_of_ble_eq_true rfl, fun T hT => ⟨T, [.int m1, .int m2], rfl, .inl (.inl upd_same), rfl, .int m1, _, rfl, .ref l, v0, .int (j1 : Nat), v1,
    l, ns.map V.int, (j1 : Int), j1, rfl, rfl, Ex.new hT _ _ ((e1.trans e2) _ _ hl), ixN_nat (by rw [List.length_map]; exact b1), .int m2, _, rfl, .ref l, v0, .int (j2 : Nat), v2,
    l, (ns.map V.int).set j1 (.int m1), (j2 : Int), j2, rfl, rfl, upd_same, ixN_nat (by rw [List.length_set, List.length_map]; exact b2), rfl, k _ ((ns.set j1 m1).set j2 m2) (fun H0 h0 e0 => (((e0.trans (e1.trans e2)).trans (Ex.new hT)).mut h0).mut h0) (by rw [upd_same, List.map_set, List.map_set]) (by simp)⟩⟩
/-- xs[i] = e -/
theorem s_setI {l : Addr} {k : Nat} (hl : H l = some (.lst (ns.map V.int))) (h : Ev te σ H (.int i)) (ho : Ev ta σ H (.ref l)) (hi : Ev tb σ H (.int (k : Int))) (hk : k < ns.length) (q : ∀ H1, Ex H H1 → D.nx σ (upd H1 l (.lst ((ns.set k i).map V.int)))) :
    tAsg te (gSub ta tb rSetL) D σ H := s_setL hl h ho hi (by rw [List.length_map]; exact hk) fun H1 e => by
  rw [← List.map_set]
  exact q H1 e
/-- xs.pop(i) -/
theorem s_popI {l : Addr} {k : Nat} (hl : H l = some (.lst (ns.map V.int))) (ha : Ev ta σ H (.ref l)) (hi : Ev tb σ H (.int (k : Int))) (hk : k < ns.length) (h63 : (k : Int) < 2 ^ 63) (q : ∀ H1, Ex H H1 → D.nx σ (upd H1 l (.lst ((ns.eraseIdx k).map V.int)))) :
    tDrop (tBM K "list" rPopAt ta (tCons tb tNil)) D σ H := ha H (Ex.refl H) _ fun H1 e1 => ⟨Or.inl ⟨rfl, _, sq_of (e1 l _ hl)⟩, hi H1 e1 _ fun H2 e2 =>
  ⟨l, ns.map V.int, (k : Int), k, .int ns[k], rfl, rfl, (e1.trans e2) l _ hl, by omega, h63, by
    have := PySem.StrLaws.seqIndex_nonneg (i := (k : Int)) (n := (ns.map V.int).length) (by omega) (by rw [List.length_map]; omega)
    rw [this, Int.toNat_natCast], by rw [List.getElem?_map, List.getElem?_eq_getElem hk]; rfl, by
    have := q H2 (e1.trans e2)
    rw [List.eraseIdx_eq_take_drop_succ, List.map_append, List.map_take, List.map_drop] at this
    show D.nx σ _
    rw [List.eraseIdx_eq_take_drop_succ]
    exact this⟩⟩
/-- xs.insert(i, e) -/
theorem s_insI {l : Addr} {k : Nat} {n : Int} (hl : H l = some (.lst (ns.map V.int))) (ha : Ev ta σ H (.ref l)) (hi : Ev tb σ H (.int (k : Int))) (hv : Ev tc σ H (.int n)) (hz : ns.length < 100000) (h63 : (k : Int) < 2 ^ 63) (q : ∀ H1, Ex H H1 → D.nx σ (upd H1 l (.lst ((ns.take k ++ [n] ++ ns.drop k).map V.int)))) :
    tDrop (tBM K "list" (fun x vs H Q => ∃ (l : Addr) (xs : List V) (i : Int) (y : V), x = .ref l ∧ vs = [.int i, y] ∧ H l = some (.lst xs) ∧ xs.length < sizeLine ∧ 0 ≤ i ∧ i < 2 ^ 63 ∧
    Q .non (upd H l (.lst (xs.take i.toNat ++ [y] ++ xs.drop i.toNat)))) ta (tCons tb (tCons tc tNil))) D σ H := ha H (Ex.refl H) _ fun H1 e1 => ⟨Or.inl ⟨rfl, _, sq_of (e1 l _ hl)⟩, hi H1 e1 _ fun H2 e2 => hv H2 (e1.trans e2) _ fun H3 e3 =>
  ⟨l, ns.map V.int, (k : Int), .int n, rfl, rfl, ((e1.trans e2).trans e3) l _ hl, by rw [List.length_map]; exact sz_lt hz, by omega, h63, by
    have := q H3 ((e1.trans e2).trans e3)
    rw [List.map_append, List.map_append, List.map_take, List.map_drop] at this
    rw [Int.toNat_natCast]
    exact this⟩⟩
/-- a new answer -/
def EvG (C : Addr) (te : TE) (σ : L2.St) (H : Hp) (Good : List Int → List Int → Prop) : Prop := ∀ H1, Ex H H1 → ∀ Q : VK, (∀ (x pr pl : Addr) (rs ls : List Int) H2, H1 x = none → H1 pr = none → H1 pl = none → pr ≠ pl → Ex H1 H2 → GoneAt C H2 x pr pl → H2 pr = some (.lst (rs.map V.int)) → H2 pl = some (.lst (ls.map V.int)) → Good rs ls → Q (.ref x) H2) → te σ H1 Q
theorem eg_make (h : EvA tg σ H [.ref a, .ref b]) (ha : SqL K H a (rs.map V.int)) (hb : SqL K H b (ls.map V.int)) : EvG C (tMake C (sp_Gone_init K C) [] E tg) σ H (fun r l => r = rs ∧ l = ls) := fun H1 e Q q => h H1 e _ fun H2 e2 => fun x dx hx hdx hdx2 => by
  have e3 : Ex H2 (upd (upd H2 dx (.own x)) x (.ins C dx [])) := fun c o hc => by
    rw [upd_ne (ne_of_none hc hx), upd_ne (ne_of_none hc hdx)]
    exact hc
  refine ⟨x, dx, a, b, rs, ls, rfl, upd_same, ex_l ((e.trans e2).trans e3) ha, ex_l ((e.trans e2).trans e3) hb, fun qr ql H5 hqr hql hne keep hx5 hr5 hl5 => ⟨rfl, ?_⟩⟩
  have e6 : Ex H2 H5 := fun c o hc => keep c o (e3 c o hc) (ne_of_none hc hx)
  exact q x qr ql rs ls H5 (fresh_back e2 hx) (fresh_back (e2.trans e3) hqr) (fresh_back (e2.trans e3) hql) hne (e2.trans e6) ⟨dx, hx5⟩ hr5 hl5 ⟨rfl, rfl⟩
theorem eg_gone (h : EvA tg σ H [.ref a, .int L]) (ha : SqL K H a (hs.map V.int)) (hp : (IsHeap hs ∧ Len hs) ∧ 1 ≤ L ∧ L.natAbs.log2 < 9000 ∧ rimsIn hs L ≤ 1000) :
    EvG C (tCall (sp_gone K C) [] E tg) σ H (fun R l => l = coreOf hs L ∧ runM L hs R = some (coreOf hs L) ∧ ((R.length : Nat) : Int) = rimsIn hs L) := fun H1 e Q q => h H1 e _ fun H2 e2 =>
  ⟨a, hs, L, rfl, ex_l (e.trans e2) ha, hp, fun x pr pl R H3 hx hr hl hne e3 hg h4 h5 h6 h7 => q x pr pl R _ H3 (fresh_back e2 hx) (fresh_back e2 hr) (fresh_back e2 hl) hne (e2.trans e3) hg h4 h5 ⟨rfl, h6, h7⟩⟩
/-- of a new list -/
theorem eg_goneN (h : EvL ta σ H (hs.map V.int)) (hb : Ev tb σ H (.int L)) (hp : (IsHeap hs ∧ Len hs) ∧ 1 ≤ L ∧ L.natAbs.log2 < 9000 ∧ rimsIn hs L ≤ 1000) :
    EvG C (tCall (sp_gone K C) [] E (tCons ta (tCons tb tNil))) σ H (fun R l => l = coreOf hs L ∧ runM L hs R = some (coreOf hs L) ∧ ((R.length : Nat) : Int) = rimsIn hs L) := fun H1 e Q q => h H1 e _ fun p H2 _ e2 h2 => hb H2 (e.trans e2) _ fun H3 e3 =>
  ⟨p, hs, L, rfl, sq_map (e3 _ _ h2), hp, fun x pr pl R H4 hx hr hl hne e4 hg h4 h5 h6 h7 => q x pr pl R _ H4 (fresh_back (e2.trans e3) hx) (fresh_back (e2.trans e3) hr) (fresh_back (e2.trans e3) hl) hne ((e2.trans e3).trans e4) hg h4 h5 ⟨rfl, h6, h7⟩⟩
theorem eg_makeN (h : EvL ta σ H (rs.map V.int)) (hb : EvL tb σ H (ls.map V.int)) : EvG C (tMake C (sp_Gone_init K C) [] E (tCons ta (tCons tb tNil))) σ H (fun r l => r = rs ∧ l = ls) := fun H1 e Q q => h H1 e _ fun p1 H2 _ e2 h2 => hb H2 (e.trans e2) _ fun p2 H3 _ e3 h3 => by
  refine (eg_make (K := K) (E := E) (tg := fun σ H Q => Q [.ref p1, .ref p2] H) (σ := σ) (H := H3) (rs := rs) (ls := ls) (C := C) (fun H4 _ Q q => q H4 (Ex.refl H4)) (sq_map (e3 _ _ h2)) (sq_map h3)) H3 (Ex.refl H3) _ ?_
  exact fun x pr pl rs ls H4 hx hr hl hne e4 => q x pr pl rs ls H4 (fresh_back (e2.trans e3) hx) (fresh_back (e2.trans e3) hr) (fresh_back (e2.trans e3) hl) hne ((e2.trans e3).trans e4)
theorem q_asgG {k : Nat} {Go : List Int → List Int → Prop} (h : EvG C te σ H Go) (q : ∀ (x pr pl : Addr) (rs ls : List Int) H1, H x = none → H pr = none → H pl = none → pr ≠ pl → Ex H H1 → GoneAt C H1 x pr pl → H1 pr = some (.lst (rs.map V.int)) → H1 pl = some (.lst (ls.map V.int)) → Go rs ls → tz D (σ.set k (some (.ref x))) H1) :
    tSeq (tAsg te (gName k)) tz D σ H := h H (Ex.refl H) _ q
/-- a field of a new answer beside a new list -/
theorem ev_eqRowsN (T : GoneT K mg C CA) {Go : List Int → List Int → Prop} (h : EvG C ta σ H Go) (h2 : EvL tb σ H (ms.map V.int)) (hg : ∀ r l, Go r l → r = ns) : Ev (tOp (rEqD K) (tFld K ta "rows") tb) σ H (.bl (decide (ns = ms))) := fun H1 e Q q => h H1 e _ fun x pr pl rs ls H2 _ _ _ _ e2 ⟨dx, hx⟩ h3 h4 gd => by
  cases hg _ _ gd
  exact ⟨x, C, dx, _, _, rfl, hx, T.cl, T.nR, gf_rows _ _, h2 H2 (e.trans e2) _ fun p H3 _ e3 h5 => rv_eqI (sq_map (e3 _ _ h3)) (sq_map h5) H3 (Ex.refl H3) Q fun H4 e4 => q H4 ((e2.trans e3).trans e4)⟩
theorem ev_eqLeftN (T : GoneT K mg C CA) {Go : List Int → List Int → Prop} (h : EvG C ta σ H Go) (h2 : EvL tb σ H (ms.map V.int)) (hg : ∀ r l, Go r l → l = ns) : Ev (tOp (rEqD K) (tFld K ta "left") tb) σ H (.bl (decide (ns = ms))) := fun H1 e Q q => h H1 e _ fun x pr pl rs ls H2 _ _ _ _ e2 ⟨dx, hx⟩ h3 h4 gd => by
  cases hg _ _ gd
  exact ⟨x, C, dx, _, _, rfl, hx, T.cl, T.nL, gf_left _ _, h2 H2 (e.trans e2) _ fun p H3 _ e3 h5 => rv_eqI (sq_map (e3 _ _ h4)) (sq_map h5) H3 (Ex.refl H3) Q fun H4 e4 => q H4 ((e2.trans e3).trans e4)⟩
/-- its own word -/
theorem ev_shows (h : Ev ta σ H (.ref g)) (hg : GoneAt C H g pr pl) (h2 : EvA tg σ H [.ref a, .int L]) (hr : SqL K H pr (rs.map V.int)) (hl : SqL K H pl (ls.map V.int)) (ha : SqL K H a (hs.map V.int)) (hp : Len hs) :
    Ev (tMeth C "shows" (sp_Gone_shows K C) [] E ta tg) σ H (.bl (dueM hs L rs ls)) := fun H1 e Q q => h H1 e _ fun H2 e2 => by
  obtain ⟨dx, hx⟩ := hg
  exact ⟨g, dx, _, rfl, (e.trans e2) _ _ hx, gf_shows _ _, h2 H2 (e.trans e2) _ fun H3 e3 =>
    have e03 := (e.trans e2).trans e3
    ⟨g, pr, pl, a, rs, ls, hs, L, rfl, ⟨dx, e03 _ _ hx⟩, ex_l e03 hr, ex_l e03 hl, ex_l e03 ha, hp, fun H4 e4 => q H4 ((e2.trans e3).trans e4)⟩⟩
/-- its own word, of a new answer and a new list -/
theorem ev_showsN {Go : List Int → List Int → Prop} (h : EvG C ta σ H Go) (h2 : EvL tb σ H (hs.map V.int)) (h3 : Ev tc σ H (.int L)) (hg : ∀ r l, Go r l → r = rs ∧ l = ls) (hp : Len hs) :
    Ev (tMeth C "shows" (sp_Gone_shows K C) [] E ta (tCons tb (tCons tc tNil))) σ H (.bl (dueM hs L rs ls)) := fun H1 e Q q => h H1 e _ fun x pr pl r l H2 _ _ _ _ e2 ⟨dx, hx⟩ h4 h5 gd => by
  obtain ⟨rfl, rfl⟩ := hg _ _ gd
  exact ⟨x, dx, _, rfl, hx, gf_shows _ _, h2 H2 (e.trans e2) _ fun p H3 _ e3 h6 => h3 H3 ((e.trans e2).trans e3) _ fun H4 e4 =>
    ⟨x, pr, pl, p, r, l, hs, L, rfl, ⟨dx, (e3.trans e4) _ _ hx⟩, sq_map ((e3.trans e4) _ _ h4), sq_map ((e3.trans e4) _ _ h5), sq_map (e4 _ _ h6), hp, fun H5 e5 => q H5 (((e2.trans e3).trans e4).trans e5)⟩⟩
theorem go_due (ha : SqL K H a (hs.map V.int)) (hb : SqL K H b (rs.map V.int)) (hc : SqL K H c (ls.map V.int)) (hp : Len hs) : SpV (sp_l_due K) [.ref a, .int L, .ref b, .ref c] H (.bl (dueM hs L rs ls)) := fun _ e Q q E => ⟨a, b, c, hs, rs, ls, L, rfl, ex_l e ha, ex_l e hb, ex_l e hc, hp, q⟩
theorem go_says {b c : Bool} : SpV sp_l_says [.bl b, .bl c] H (.bl (decide (b = c))) := fun _ e Q q E => ⟨b, c, rfl, q⟩
theorem ev_due3 (h1 : Ev ta σ H (.ref a)) (h2 : Ev tb σ H (.int L)) (h3 : EvL tc σ H (rs.map V.int)) (h4 : Ev td σ H (.ref c)) (ha : SqL K H a (hs.map V.int)) (hc : SqL K H c (ls.map V.int)) (hp : Len hs) :
    Ev (tCall (sp_l_due K) [] E (tCons ta (tCons tb (tCons tc (tCons td tNil))))) σ H (.bl (dueM hs L rs ls)) := fun H1 e Q q => h1 H1 e _ fun H2 e2 => h2 H2 (e.trans e2) _ fun H3 e3 => h3 H3 ((e.trans e2).trans e3) _ fun p H4 _ e4 h5 => h4 H4 (((e.trans e2).trans e3).trans e4) _ fun H5 e5 =>
  have e05 := (((e.trans e2).trans e3).trans e4).trans e5
  ⟨a, p, c, hs, rs, ls, L, rfl, ex_l e05 ha, sq_map (e5 _ _ h5), ex_l e05 hc, hp, fun H6 e6 => q H6 ((((e2.trans e3).trans e4).trans e5).trans e6)⟩
theorem go_made (ha : SqL K H a (hs.map V.int)) (hb : H b = some (.lst (rs.map V.int))) (hc : SqL K H c (ls.map V.int)) (hp : Len hs ∧ rs.length ≤ 50000 ∧ ls.length ≤ 50000) : SpV (sp_l_made_right K) [.ref a, .int L, .ref b, .ref c] H (.bl true) := fun _ e Q q E => ⟨a, b, c, hs, rs, ls, L, rfl, ex_l e ha, e _ _ hb, ex_l e hc, hp, q⟩
theorem ev_made3 (h1 : Ev ta σ H (.ref a)) (h2 : Ev tb σ H (.int L)) (h3 : EvL tc σ H (rs.map V.int)) (h4 : Ev td σ H (.ref c)) (ha : SqL K H a (hs.map V.int)) (hc : SqL K H c (ls.map V.int)) (hp : Len hs ∧ rs.length ≤ 50000 ∧ ls.length ≤ 50000) :
    Ev (tCall (sp_l_made_right K) [] E (tCons ta (tCons tb (tCons tc (tCons td tNil))))) σ H (.bl true) := fun H1 e Q q => h1 H1 e _ fun H2 e2 => h2 H2 (e.trans e2) _ fun H3 e3 => h3 H3 ((e.trans e2).trans e3) _ fun p H4 _ e4 h5 => h4 H4 (((e.trans e2).trans e3).trans e4) _ fun H5 e5 =>
  have e05 := (((e.trans e2).trans e3).trans e4).trans e5
  ⟨a, p, c, hs, rs, ls, L, rfl, ex_l e05 ha, e5 _ _ h5, ex_l e05 hc, hp, fun H6 e6 => q H6 ((((e2.trans e3).trans e4).trans e5).trans e6)⟩
theorem ev_made4 (h1 : Ev ta σ H (.ref a)) (h2 : Ev tb σ H (.int L)) (h3 : Ev tc σ H (.ref b)) (h4 : EvN td σ H fun l => l.length ≤ 50000) (ha : SqL K H a (hs.map V.int)) (hb : H b = some (.lst (rs.map V.int))) (hp : Len hs ∧ rs.length ≤ 50000) :
    Ev (tCall (sp_l_made_right K) [] E (tCons ta (tCons tb (tCons tc (tCons td tNil))))) σ H (.bl true) := fun H1 e Q q => h1 H1 e _ fun H2 e2 => h2 H2 (e.trans e2) _ fun H3 e3 => h3 H3 ((e.trans e2).trans e3) _ fun H4 e4 => h4 H4 (((e.trans e2).trans e3).trans e4) _ fun p ls H5 e5 h5 hl =>
  have e05 := (((e.trans e2).trans e3).trans e4).trans e5
  ⟨a, b, p, hs, rs, ls, L, rfl, ex_l e05 ha, e05 _ _ hb, sq_map h5, ⟨hp.1, hp.2, hl⟩, fun H6 e6 => q H6 ((((e2.trans e3).trans e4).trans e5).trans e6)⟩
theorem en_bent {i j : Int} (h : EvA tg σ H [.ref a, .int i, .int j]) (ha : SqL K H a (ns.map V.int)) (hl : ns.length ≤ 20000) (hG : ∀ ms : List Int, ms.length ≤ 30000 → Good ms) : EvN (tCall (sp_l_bent K) [] E tg) σ H Good := fun H1 e Q q => h H1 e _ fun H2 e2 =>
  ⟨a, ns, i, j, rfl, ex_l (e.trans e2) ha, hl, fun p ms H3 e3 h3 hm => q p ms H3 (e2.trans e3) h3 (hG ms hm)⟩
/-- rows, now = turn(a new list, heap, length) -/
theorem q_turn {k1 k2 : Nat} (h1 : EvL ta σ H (ns.map V.int)) (h2 : Ev tb σ H (.ref b)) (h3 : Ev tc σ H (.int L)) (hb : SqL K H b (hs.map V.int)) (hp : Len ns ∧ (IsHeap hs ∧ Len hs) ∧ 1 ≤ L ∧ rimsIn hs L ≤ 1000)
    (q : ∀ (pr pn : Addr) (R ms : List Int) H2, Ex H H2 → H2 pr = some (.lst (R.map V.int)) → H2 pn = some (.lst (ms.map V.int)) → runM L hs R = some ms → R.length ≤ 1000 → tz D ((σ.set k1 (some (.ref pr))).set k2 (some (.ref pn))) H2) :
    tSeq (tAsg (tCall (sp_l_turn K) [] E (tCons ta (tCons tb (tCons tc tNil)))) (gTup K 2 (gCons (gName k1) (gCons (gName k2) gNil)))) tz D σ H :=
  h1 H (Ex.refl H) _ fun p H1 _ e1 q1 => h2 H1 e1 _ fun H2 e2 => h3 H2 (e1.trans e2) _ fun H3 e3 => ⟨p, b, ns, hs, L, rfl, sq_map ((e2.trans e3) _ _ q1), ex_l ((e1.trans e2).trans e3) hb, hp, fun pt pr pn R ms H4 e4 ht hr hm hrun hl =>
    ⟨pt, [.ref pr, .ref pn], rfl, .inl (.inl ht), rfl, .ref pr, _, rfl, .ref pn, _, rfl, rfl, q pr pn R ms H4 (((e1.trans e2).trans e3).trans e4) hr hm hrun hl⟩⟩
/-- a core and a number beside a pair of these -/
theorem dp_pair {d : Addr} {cs : List Int} {n : Int} (hd : SqT K H d [.ref c, .int n]) (hc : SqL K H c (cs.map V.int)) : Dp K H (.ref d) (.tuple [dI cs, .int n]) := .tup hd (.cons (dp_I hc) (.cons (.int n) .nil))
theorem shaped_pair (cs : List Int) (n : Int) : SeqAt.shaped (.tuple [dI cs, .int n]) = true := by
  unfold SeqAt.shaped dI
  simp only [PyData.canLay0, PyData.canLayAll0, canLay_ints, PyData.depth, PyData.depthAll, depth_ints, Bool.true_and, Bool.and_true]
  decide
theorem eqv_pair (cs ds : List Int) (n m : Int) : PyData.eqv (.tuple [dI cs, .int n]) (.tuple [dI ds, .int m]) = (decide (cs = ds) && decide (n = m)) := by
  unfold dI
  simp only [PyData.eqv, PyData.eqvAll, eqvAll_ints, Bool.and_true]
  rfl
theorem ev_nePair {d : Addr} {cs ds : List Int} {n m : Int} (h1 : EvU ta σ H [.ref b, .int n]) (h2 : Ev tb σ H (.ref d)) (hb : SqL K H b (cs.map V.int)) (hd : SqT K H d [.ref c, .int m]) (hc : SqL K H c (ds.map V.int)) :
    Ev (tOp (rNeD K) ta tb) σ H (.bl (!(decide (cs = ds) && decide (n = m)))) := fun H1 e Q q => h1 H1 e _ fun p H2 _ e2 hp => h2 H2 (e.trans e2) _ fun H3 e3 =>
  have e03 := (e.trans e2).trans e3
  ⟨_, _, dp_pair (st_of (e3 _ _ hp)) (ex_l e03 hb), dp_pair (ex_t e03 hd) (ex_l e03 hc), shaped_pair _ _, shaped_pair _ _, by
    rw [eqv_pair]
    exact q H3 (e2.trans e3)⟩
theorem ev_notBl {b c : Bool} (h1 : Ev ta σ H (.bl b)) (h2 : Ev tb σ H (.bl c)) : Ev (tOp rNotB ta tb) σ H (.bl (!decide (b = c))) := fun H1 e Q q => h1 H1 e _ fun H2 e2 => h2 H2 (e.trans e2) _ fun H3 e3 => ⟨b, c, rfl, rfl, q H3 (e2.trans e3)⟩
theorem ev_isBl {b c : Bool} (h1 : Ev ta σ H (.bl b)) (h2 : Ev tb σ H (.bl c)) : Ev (tOp rIsB ta tb) σ H (.bl (decide (b = c))) := fun H1 e Q q => h1 H1 e _ fun H2 e2 => h2 H2 (e.trans e2) _ fun H3 e3 => ⟨b, c, rfl, rfl, q H3 (e2.trans e3)⟩
/-- x, y = core(..), a new list -/
theorem q_parCL {k1 k2 : Nat} {ys : List V} {cs : List Int} {n : Int} (h2 : EvC ta σ H cs n) (h : EvL tb σ H ys) (q : ∀ p d c H1, H p = none → Ex H H1 → H1 p = some (.lst ys) → H1 c = some (.lst (cs.map V.int)) → H1 d = some (.tup [.ref c, .int n]) → tz D ((σ.set k1 (some (.ref d))).set k2 (some (.ref p))) H1) :
    tSeq (tPar k1 k2 (tCons ta (tCons tb tNil))) tz D σ H := h2 H (Ex.refl H) _ fun d c H1 _ _ e1 h4 h5 => h H1 e1 _ fun p H2 hp e2 h3 => ⟨.ref d, .ref p, rfl, q p d c H2 (fresh_back e1 hp) (e1.trans e2) h3 (e2 _ _ h4) (e2 _ _ h5)⟩
/-- x = [a new list, a new list] -/
theorem q_asgLL {k : Nat} {xs ys : List V} (h : EvL ta σ H xs) (h2 : EvL tb σ H ys) (q : ∀ p r l H1, H p = none → H r = none → p ≠ r → l ≠ p → l ≠ r → Ex H H1 → H1 p = some (.lst xs) → H1 r = some (.lst ys) → H1 l = some (.lst [.ref p, .ref r]) → tz D (σ.set k (some (.ref l))) H1) :
    tSeq (tAsg (tLst (tCons ta (tCons tb tNil))) (gName k)) tz D σ H := h H (Ex.refl H) _ fun p H1 hp e1 h3 => h2 H1 e1 _ fun r H2 hr e2 h4 => ⟨Nat.le_of_ble_eq_true rfl, fun l hl => q p r l _ hp (fresh_back e1 hr) (ne_of_none h3 hr) (ne_of_none (e2 _ _ h3) hl).symm (ne_of_none h4 hl).symm ((e1.trans e2).trans (Ex.new hl)) (Ex.new hl _ _ (e2 _ _ h3)) (Ex.new hl _ _ h4) upd_same⟩
theorem due_true {R cs : List Int} (e : runM L hs R = some cs) (h : rimsH cs L = []) : dueM hs L R cs = true := by
  rw [due_some e, h]
  simp
theorem due_not {R cs ds : List Int} (e : runM L hs R = some cs) (h : cs ≠ ds) : dueM hs L R ds = false := by
  rw [due_some e, decide_eq_false h]
  rfl
theorem core_rims {h : List Int} (H : IsHeap h) (hL : 0 < L) : rimsH (coreOf h L) L = [] := (rims_none (coreOf_heap hL h) hL).mpr (core_core H hL).2
/-- for x in (a, b, ..), a tuple made for it -/
theorem s_forU {k : Nat} {vs : List V} (h : EvU tl σ H vs) (Pv : Hp → L2.St → Hp → Prop) (hE : ∀ H0 σ' H', Pv H0 σ' H' → Ex H0 H') (h0 : ∀ H1, Ex H H1 → Pv H1 σ H1)
    (hs : ∀ H0 x σ' H', x ∈ vs → Ex H H0 → Pv H0 σ' H' → tu { D with nx := Pv H0, ct := Pv H0, bk := D.nx } (σ'.set k (some x)) H') (hd : ∀ H0 σ' H', Ex H H0 → Pv H0 σ' H' → D.nx σ' H') : tFor (iTup K tl) (gName k) tu D σ H :=
  h H (Ex.refl H) _ fun p H1 _ e hp => ⟨p, rfl, ⟨_, .inl (.inl hp)⟩, for_tup (xs := vs) (fun _ => Pv H1) (h0 H1 e) (fun i σ' H' _ q => .inl (.inl (hE _ _ _ q _ _ hp))) (fun i x σ' H' hi q => hs H1 x σ' H' (List.mem_of_getElem? hi) e q) (fun σ' H' q => hd H1 σ' H' e q)⟩
theorem q_forU {k : Nat} {vs : List V} (h : EvU tl σ H vs) (Pv : Hp → L2.St → Hp → Prop) (hE : ∀ H0 σ' H', Pv H0 σ' H' → Ex H0 H') (h0 : ∀ H1, Ex H H1 → Pv H1 σ H1)
    (hs : ∀ H0 x σ' H', x ∈ vs → Ex H H0 → Pv H0 σ' H' → tu { D with nx := Pv H0, ct := Pv H0, bk := tz D } (σ'.set k (some x)) H') (hd : ∀ H0 σ' H', Ex H H0 → Pv H0 σ' H' → tz D σ' H') : tSeq (tFor (iTup K tl) (gName k) tu) tz D σ H :=
  s_forU (D := { D with nx := tz D }) h Pv hE h0 hs hd
theorem el_lastI {k : Nat} (hk : 0 < k) (h : EvL te σ H (ns.map V.int)) (hv : Ev tb σ H (.int (-(k : Int)))) : EvL (tSl (rSlL K) te (tPart tb) tNoPart) σ H ((ns.drop (ns.length - k)).map V.int) :=
  el_slN h (eo_some hv) eo_none (by rw [cut_last _ _ hk, List.map_drop, List.length_map])
end
theorem small_log {L : Int} (h0 : 0 ≤ L) (h : L < 1000000) : L.natAbs.log2 < 9000 := by
  have : L.natAbs < 2 ^ 20 := by
    have e : (2 : Nat) ^ 20 = 1048576 := by decide
    omega
  have := log_lt (by decide) this
  omega
end Rh
namespace Rh
open PySem PySem.Spec PyProof.Rows L2 Evl
theorem rep_flat (n : Nat) (x : Int) : (List.replicate n [V.int x]).flatten = (List.replicate n x).map V.int := by
  induction n with
  | zero => rfl
  | succ n ih =>
    rw [List.replicate_succ, List.replicate_succ, List.flatten_cons, ih, List.map_cons]
    rfl
end Rh
namespace Rh
open PySem PySem.Spec PyProof.Rows L2 Evl
theorem sum_le16 : ∀ {l : List Int}, (∀ x ∈ l, x ≤ 16) → l.sum ≤ 16 * (l.length : Int)
  | [], _ => by simp
  | x :: r, h => by
    have h1 := h x List.mem_cons_self
    have h2 := sum_le16 fun z hz => h z (List.mem_cons_of_mem _ hz)
    rw [List.sum_cons, List.length_cons]
    omega
structure Tiny (h : List Int) : Prop where
  heap : IsHeap h
  len : h.length ≤ 12
  row : ∀ x ∈ h, x ≤ 16
theorem Tiny.sub {h k : List Int} (t : Tiny h) (s : k.Sublist h) : Tiny k := ⟨⟨fun x hx => t.heap.pos x (s.subset hx), t.heap.falls.sublist s⟩, Nat.le_trans s.length_le t.len, fun x hx => t.row x (s.subset hx)⟩
theorem tiny_small (ns : List Int) (b : Int) : Tiny (smallM ns b) := ⟨(smallM_made ns b).heap, smallM_len ns b, fun x hx => (smallM_row ns b x hx).2⟩
theorem Tiny.rims {h : List Int} (t : Tiny h) {L : Int} (hL : 0 < L) : rimsIn h L ≤ 1000 := by
  have h1 := rims_le t.heap hL
  have h2 := sum_le16 t.row
  have h3 := t.len
  omega
theorem Tiny.few {h : List Int} (t : Tiny h) : IsHeap h ∧ h.length ≤ 80 := ⟨t.heap, by have := t.len; omega⟩
theorem due_end : dueM [2] 1 [0, 0] [] = true := by
  have b1 : behindOf [2] 1 (0 : Int).toNat = [1] := by
    unfold behindOf
    rw [heapOf_run]
    decide
  have b2 : behindOf [1] 1 (0 : Int).toNat = [] := by
    unfold behindOf
    rw [heapOf_run]
    decide
  have r1 : (0 : Int) ∈ rimsH [2] 1 := by decide
  have r2 : (0 : Int) ∈ rimsH [1] 1 := by decide
  have e : runM 1 [2] [0, 0] = some [] := by
    show (if (0 : Int) ∈ rimsH [2] 1 then runM 1 (behindOf [2] 1 (0 : Int).toNat) [0] else none) = _
    rw [if_pos r1, b1]
    show (if (0 : Int) ∈ rimsH [1] 1 then runM 1 (behindOf [1] 1 (0 : Int).toNat) [] else none) = _
    rw [if_pos r2, b2]
    rfl
  exact due_true e (by decide)
section
variable {K : PySem.W.Frag} {σ : L2.St} {H : Hp} {ta tb tc : TE} {a b : Addr} {ns hs : List Int} {L : Int} {E : XK}
theorem go_right4 (h1 : SqL K H a (ns.map V.int)) (h2 : SqL K H b (hs.map V.int)) (hp : Len ns ∧ (IsHeap hs ∧ hs.length ≤ 80) ∧ (1 ≤ L ∧ L ≤ 1000) ∧ rimsIn hs L ≤ 1000) : SpV (sp_l_right4 K) [.ref a, .ref b, .int L] H (.bl true) := fun _ e Q q E => ⟨a, b, ns, hs, L, rfl, ex_l e h1, ex_l e h2, hp, q⟩
theorem ev_right4N (h1 : Ev ta σ H (.ref a)) (h2 : EvL tb σ H (hs.map V.int)) (h3 : Ev tc σ H (.int L)) (ha : SqL K H a (ns.map V.int)) (hp : Len ns ∧ (IsHeap hs ∧ hs.length ≤ 80) ∧ (1 ≤ L ∧ L ≤ 1000) ∧ rimsIn hs L ≤ 1000) :
    Ev (tCall (sp_l_right4 K) [] E (tCons ta (tCons tb (tCons tc tNil)))) σ H (.bl true) := fun H1 e Q q => h1 H1 e _ fun H2 e2 => h2 H2 (e.trans e2) _ fun p H3 _ e3 q3 => h3 H3 ((e.trans e2).trans e3) _ fun H4 e4 =>
  ⟨a, p, ns, hs, L, rfl, ex_l (((e.trans e2).trans e3).trans e4) ha, sq_map (e4 _ _ q3), hp, fun H5 e5 => q H5 (((e2.trans e3).trans e4).trans e5)⟩
end
end Rh
namespace Rh
open PySem PySem.Spec PyProof.Rows L2 Evl
/-- where a number stands at the top -/
def Num (K : PySem.W.Frag) (x : Str) (n : Int) : Prop := ∃ t : Tok, PySem.W.nsIn K mainGlobals x = some (some (.int n t))
theorem num_mk {K : PySem.W.Frag} {x : Str} {n : Int} {t : Tok} (a : PySem.W.nsIn K mainGlobals x = some (some (.int n t))) : Num K x n := ⟨t, a⟩
/-- what the answers' class is -/
def GoneF (K : PySem.W.Frag) (s1 s2 : Stmt) : Prop := ∃ (C CA f1 f2 : Addr) (oc1 : Value) (od1 : Option Addr) (kV1 doc1 pm1 : Value) (an1 : Option Addr) (cd1 ct1 : Value) (sl1 : Array (Option Value)) (oc2 : Value) (od2 : Option Addr) (kV2 doc2 pm2 : Value) (an2 : Option Addr) (cd2 ct2 : Value) (sl2 : Array (Option Value)),
  PySem.W.nsIn K mainGlobals "Gone" = some (some (.ref C)) ∧ PySem.W.nsIn K mainGlobals "Answer" = some (some (.ref CA)) ∧ Meth K C "shows" f2 ∧ Mk K C f1 ∧ Cls K C ∧ NoAttr K C "rows" ∧ NoAttr K C "left" ∧
  K.lookup f1 = some ⟨oc1, od1, .func (PySem.W.fnOf "__init__" "Gone.__init__" (defArgs s1) (defBody s1) (defScope s1) .none kV1 doc1 pm1 an1 cd1 ct1), sl1⟩ ∧ PySem.W.codeIn K cd1 "Gone.__init__" = true ∧ PySem.W.keepIn K (.ref f1) = true ∧
  K.lookup f2 = some ⟨oc2, od2, .func (PySem.W.fnOf "shows" "Gone.shows" (defArgs s2) (defBody s2) (defScope s2) .none kV2 doc2 pm2 an2 cd2 ct2), sl2⟩ ∧ PySem.W.codeIn K cd2 "Gone.shows" = true ∧
  PySem.W.findIn K (.ref C) "__class__" = some (some (.builtin "object.__class__")) ∧ PySem.W.specialIn K (.builtin "object.__class__") "__get__" = some (some (.builtin "getset_descriptor.__get__")) ∧ PySem.W.takesIn K (.builtin "object.__class__") = some true ∧
  PySem.W.mroIn K C (.type "object") = some true ∧ PySem.W.kitOne K (.ref C) (.ref CA) = some true
theorem goneF_mk {K : PySem.W.Frag} {s1 s2 : Stmt} {C CA f1 f2 : Addr} {oc1 : Value} {od1 : Option Addr} {kV1 doc1 pm1 : Value} {an1 : Option Addr} {cd1 ct1 : Value} {sl1 : Array (Option Value)} {oc2 : Value} {od2 : Option Addr} {kV2 doc2 pm2 : Value} {an2 : Option Addr} {cd2 ct2 : Value} {sl2 : Array (Option Value)}
    (aC : PySem.W.nsIn K mainGlobals "Gone" = some (some (.ref C))) (aA : PySem.W.nsIn K mainGlobals "Answer" = some (some (.ref CA)))
    (a1 : PySem.W.findIn K (.ref C) "__init__" = some (some (.ref f1))) (i1 : PySem.W.isFn K (.ref f1) = true) (l1 : K.lookup f1 = some ⟨oc1, od1, .func (PySem.W.fnOf "__init__" "Gone.__init__" (defArgs s1) (defBody s1) (defScope s1) .none kV1 doc1 pm1 an1 cd1 ct1), sl1⟩) (c1 : PySem.W.codeIn K cd1 "Gone.__init__" = true) (k1 : PySem.W.keepIn K (.ref f1) = true)
    (a2 : PySem.W.findIn K (.ref C) "shows" = some (some (.ref f2))) (i2 : PySem.W.isFn K (.ref f2) = true) (l2 : K.lookup f2 = some ⟨oc2, od2, .func (PySem.W.fnOf "shows" "Gone.shows" (defArgs s2) (defBody s2) (defScope s2) .none kV2 doc2 pm2 an2 cd2 ct2), sl2⟩) (c2 : PySem.W.codeIn K cd2 "Gone.shows" = true) (k2 : PySem.W.keepIn K (.ref f2) = true)
    (pg : PySem.W.plainGet K C Str.empty = true) (hd : PySem.W.hasDictIn K C = true) (po : PySem.W.plainOver K C = true) (sa : PySem.W.findIn K (.ref C) "__setattr__" = some (some (.builtin "object.__setattr__"))) (mk : PySem.W.makesIn K C = true) (kc : PySem.W.keepIn K (.ref C) = true)
    (nR : PySem.W.findIn K (.ref C) "rows" = some none) (nL : PySem.W.findIn K (.ref C) "left" = some none)
    (hc : PySem.W.findIn K (.ref C) "__class__" = some (some (.builtin "object.__class__"))) (hg : PySem.W.specialIn K (.builtin "object.__class__") "__get__" = some (some (.builtin "getset_descriptor.__get__"))) (ht : PySem.W.takesIn K (.builtin "object.__class__") = some true)
    (hm : PySem.W.mroIn K C (.type "object") = some true) (iA : PySem.W.kitOne K (.ref C) (.ref CA) = some true) : GoneF K s1 s2 :=
  ⟨C, CA, f1, f2, oc1, od1, kV1, doc1, pm1, an1, cd1, ct1, sl1, oc2, od2, kV2, doc2, pm2, an2, cd2, ct2, sl2, aC, aA, ⟨a2, i2, k2⟩, ⟨mk, a1, i1, kc⟩, ⟨pg, hd, po, sa⟩, nR, nL, l1, c1, k1, l2, c2, hc, hg, ht, hm, iA⟩
end Rh

namespace Rh
open PySem PySem.Spec PyProof.Rows L2 Evl

def tSlS (K : PySem.W.Frag) (te : TE) (tl ts : TO) : TE := fun σ H Q => te σ H fun x H1 => tl σ H1 fun l H2 => ts σ H2 fun st H3 => ∃ (a : Addr) (xs : List V), x = .ref a ∧ SqL K H3 a xs ∧ st ≠ some 0 ∧
  ∀ ys : List V, (∀ y ∈ ys, y ∈ xs) → ys.length ≤ xs.length → ∀ p, H3 p = none → Q (.ref p) (upd H3 p (.lst ys))
theorem vals_pick {xs : List V} {us : List Value} (r : Vals xs us) : ∀ R : List Nat, Vals (R.filterMap (xs[·]?)) (R.filterMap (us[·]?))
  | [] => .nil
  | k :: R => by
    rw [List.filterMap_cons, List.filterMap_cons]
    cases e : xs[k]? with
    | none =>
      rw [r.none_of e]
      exact vals_pick r R
    | some x =>
      obtain ⟨u, h1, h2⟩ := r.get e
      rw [h1]
      exact .cons h2 (vals_pick r R)
theorem pe_sliceS {X : Cx} {e lo st : Expr} {te tl ts : TE} {pos p2 : Pos} (he : PE X e te) (hl : PE X lo tl) (hs : PE X st ts) : PE X (.Subscript e (.Slice (some lo) none (some st) p2) pos) (tSlS X.K te (tPart tl) (tPart ts)) := by
  refine ⟨fun pins s σ H Q I h => ?_⟩
  refine Subscript_ (thn (he.run pins s σ H _ I h) fun v s1 ⟨x, H1, I1, r1, q1⟩ => ?_)
  refine wpAny_Slice (thn ((po_some hl).run pins s1 σ H1 _ I1 q1) fun vl s2 ⟨l, H2, I2, pl, q2⟩ => ?_)
  rw [evalPart_none]
  refine wpAny_pure (thn ((po_some hs).run pins s2 σ H2 _ I2 q2) fun vs s3 ⟨u, H3, I3, pu, q3⟩ => ?_)
  have I4 : Inv X pins σ H3 { s3 with heap := s3.heap.push { cls := .type "slice", data := .fields #[vl, .none, vs] } } := I3.kept (t' := s3.toks) fun b ob q => Heap.get?_push_of_some _ q
  obtain ⟨a, xs, rfl, hx, h0, q⟩ := q3
  cases r1
  obtain ⟨its, r, ht, hz⟩ := I4.list hx
  have hlen := r.length
  have hg : wpAny (model X.prog X.w) X.A (getItem (.ref a) (.ref s3.heap.objs.size)) (EP X pins σ Q) X.xe { s3 with heap := s3.heap.push { cls := .type "slice", data := .fields #[vl, .none, vs] } } := by
    refine wpAny_getItem_list_slice ht.isList (Heap.IsSliceOf.new ..) pl .none pu h0 ?_ (by rw [List.size_toArray] <;> omega)
    have hp := slicePick_size_le its.toArray l none u
    have e0 : ∃ R : List Nat, slicePick its.toArray l none u = (R.filterMap (its[·]?)).toArray := ⟨_, by
      unfold slicePick
      simp only [List.getElem?_toArray]
      rfl⟩
    obtain ⟨R, eR⟩ := e0
    rw [eR] at hp ⊢
    have rv := vals_pick r R
    have hl2 := rv.length
    rw [List.size_toArray, List.size_toArray] at hp
    refine ⟨.ref _, _, I4.laid (t' := s3.toks) (o := .lst (R.filterMap (xs[·]?))) (fun b ob q => Heap.get?_push_of_some _ q) (Nat.le_refl _) ?_, rfl, q (R.filterMap (xs[·]?)) (fun y hy => ?_) (by omega) _ (I4.hok.fresh (Nat.le_refl _))⟩
    · exact ⟨Nat.le_trans (by omega) hz, _, 0, rv, Heap.get?_push_size _ rfl⟩
    · obtain ⟨k, _, hk⟩ := List.mem_filterMap.mp hy
      exact List.mem_of_getElem? hk
  show wpAny (model X.prog X.w) X.A (subscriptTail e (.Slice (some lo) none (some st) p2) (.ref a) (.ref s3.heap.objs.size)) (EP X pins σ Q) X.xe { s3 with heap := s3.heap.push { cls := .type "slice", data := .fields #[vl, .none, vs] } }
  exact tail_any (ops := [.ref a, .ref s3.heap.objs.size]) ht.isList.typeIs slot_list_getitem.lookup hg (by with_unfolding_all rfl)
end Rh
namespace Rh
open PySem PySem.Spec PyProof.Rows L2 Evl
inductive LL (H : Hp) : List Addr → List (List Int) → Prop
  | nil : LL H [] []
  | cons {b : Addr} {p : List Int} {bs : List Addr} {ps : List (List Int)} : H b = some (.lst (p.map V.int)) → LL H bs ps → LL H (b :: bs) (p :: ps)
section
variable {K : PySem.W.Frag} {H H' : Hp} {bs : List Addr} {ps qs : List (List Int)}
theorem LL.len (l : LL H bs ps) : bs.length = ps.length := by
  induction l with
  | nil => rfl
  | cons _ _ ih => rw [List.length_cons, List.length_cons, ih]
theorem LL.mono (l : LL H bs ps) (e : ∀ b ∈ bs, ∀ o, H b = some o → H' b = some o) : LL H' bs ps := by
  induction l with
  | nil => exact .nil
  | cons h _ ih => exact .cons (e _ List.mem_cons_self _ h) (ih fun b hb => e b (List.mem_cons_of_mem _ hb))
theorem LL.ex (l : LL H bs ps) (e : Ex H H') : LL H' bs ps := l.mono fun b _ o h => e b o h
theorem LL.get (l : LL H bs ps) {j : Nat} {b : Addr} (hb : bs[j]? = some b) : ∃ p, ps[j]? = some p ∧ H b = some (.lst (p.map V.int)) := by
  induction l generalizing j with
  | nil => cases hb
  | @cons b0 p0 bs0 ps0 h _ ih =>
    cases j with
    | zero =>
      cases hb
      exact ⟨p0, rfl, h⟩
    | succ j =>
      rw [List.getElem?_cons_succ] at hb
      obtain ⟨p, h1, h2⟩ := ih hb
      exact ⟨p, by rw [List.getElem?_cons_succ]; exact h1, h2⟩
theorem LL.at (l : LL H bs ps) {j : Nat} {p : List Int} (hp : ps[j]? = some p) : ∃ b, bs[j]? = some b ∧ H b = some (.lst (p.map V.int)) := by
  have hj := (List.getElem?_eq_some_iff.mp hp).1
  have hj2 : j < bs.length := by rw [l.len]; exact hj
  have hb : bs[j]? = some bs[j] := List.getElem?_eq_getElem hj2
  obtain ⟨p', h1, h2⟩ := l.get hb
  rw [hp] at h1
  cases h1
  exact ⟨_, hb, h2⟩
theorem LL.snoc (l : LL H bs ps) {b : Addr} {p : List Int} (h : H b = some (.lst (p.map V.int))) : LL H (bs ++ [b]) (ps ++ [p]) := by
  induction l with
  | nil => exact .cons h .nil
  | cons h1 _ ih => exact .cons h1 ih
theorem LL.drop (l : LL H bs ps) : ∀ k, LL H (bs.drop k) (ps.drop k) := by
  induction l with
  | nil => intro k; rw [List.drop_nil, List.drop_nil]; exact .nil
  | cons h1 l1 ih =>
    intro k
    cases k with
    | zero => exact .cons h1 l1
    | succ k => exact ih k
theorem LL.std (l : LL H bs ps) : ∀ b ∈ bs, ∃ o, H b = some o := by
  induction l with
  | nil => intro b hb; cases hb
  | cons h1 _ ih =>
    intro b hb
    rcases List.mem_cons.mp hb with rfl | hb
    · exact ⟨_, h1⟩
    · exact ih b hb
theorem LL.mem (l : LL H bs ps) {b : Addr} (hb : b ∈ bs) : ∃ p ∈ ps, H b = some (.lst (p.map V.int)) := by
  obtain ⟨j, hj⟩ := List.getElem?_of_mem hb
  obtain ⟨p, h1, h2⟩ := l.get hj
  exact ⟨p, List.mem_of_getElem? h1, h2⟩
/-- one of them changed -/
theorem LL.put (l : LL H bs ps) (nd : bs.Nodup) {j : Nat} {b : Addr} {q : List Int} (hb : bs[j]? = some b) : LL (upd H b (.lst (q.map V.int))) bs (ps.set j q) := by
  induction l generalizing j with
  | nil => cases hb
  | @cons b0 p0 bs0 ps0 h l0 ih =>
    obtain ⟨n1, n2⟩ := List.nodup_cons.mp nd
    cases j with
    | zero =>
      cases hb
      refine .cons upd_same (l0.mono fun c hc o ho => ?_)
      rw [upd_ne fun z => n1 (by rw [← z]; exact hc)]
      exact ho
    | succ j =>
      rw [List.getElem?_cons_succ] at hb
      refine .cons ?_ (ih n2 hb)
      rw [upd_ne fun z => n1 (by rw [z]; exact List.mem_of_getElem? hb)]
      exact h
/-- another one in its place -/
theorem LL.swap (l : LL H bs ps) {j : Nat} {b : Addr} {q : List Int} (h : H b = some (.lst (q.map V.int))) : LL H (bs.set j b) (ps.set j q) := by
  induction l generalizing j with
  | nil => exact .nil
  | cons h0 l0 ih =>
    cases j with
    | zero => exact .cons h l0
    | succ j => exact .cons h0 ih
def rs (bs : List Addr) : List V := bs.map V.ref
theorem rs_len : (rs bs).length = bs.length := by simp [rs]
theorem rs_at {j : Nat} {x : V} (h : (rs bs)[j]? = some x) : ∃ b, bs[j]? = some b ∧ x = .ref b := by
  unfold rs at h
  rw [List.getElem?_map] at h
  obtain ⟨b, h1, h2⟩ := Option.map_eq_some_iff.mp h
  exact ⟨b, h1, h2.symm⟩
theorem atI_rs {j : Nat} {b : Addr} (h : bs[j]? = some b) : atI (rs bs) (j : Int) = some (.ref b) := atI_nat (by unfold rs; rw [List.getElem?_map, h]; rfl)
theorem dpAll_LL (l : LL H bs ps) : DpAll K H (rs bs) (ps.map dI) := by
  unfold rs
  induction l with
  | nil => exact .nil
  | cons h _ ih => exact .cons (dp_I (sq_map h)) ih
theorem canLay_LL : ∀ ps : List (List Int), PyData.canLayAll0 (ps.map dI) = true
  | [] => by simp only [List.map_nil, PyData.canLayAll0]
  | p :: r => by
    rw [List.map_cons]
    unfold dI
    simp only [PyData.canLayAll0, PyData.canLay0, canLay_ints, Bool.true_and]
    exact canLay_LL r
theorem depth_LL : ∀ ps : List (List Int), PyData.depthAll (ps.map dI) ≤ 1
  | [] => by simp only [List.map_nil, PyData.depthAll]; decide
  | p :: r => by
    have ih := depth_LL r
    rw [List.map_cons]
    have e : PyData.depth (dI p) ≤ 1 := by
      unfold dI
      simp only [PyData.depth, depth_ints]
      decide
    simp only [PyData.depthAll]
    exact Nat.max_le.mpr ⟨e, ih⟩
theorem shaped_LL (ps : List (List Int)) : SeqAt.shaped (.list (ps.map dI)) = true := by
  unfold SeqAt.shaped
  have h := depth_LL ps
  simp only [PyData.canLay0, canLay_LL, PyData.depth, Bool.true_and]
  exact decide_eq_true (by omega)
theorem eqvAll_LL : ∀ ps qs : List (List Int), PyData.eqvAll (ps.map dI) (qs.map dI) = decide (ps = qs)
  | [], [] => by simp [PyData.eqvAll]
  | [], m :: s => by simp [PyData.eqvAll]
  | n :: r, [] => by simp [PyData.eqvAll]
  | n :: r, m :: s => by
    rw [List.map_cons, List.map_cons]
    simp only [PyData.eqvAll, eqv_I, eqvAll_LL r s]
    rw [Bool.eq_iff_iff]
    simp
theorem eqv_LL (ps qs : List (List Int)) : PyData.eqv (.list (ps.map dI)) (.list (qs.map dI)) = decide (ps = qs) := by
  simp only [PyData.eqv]
  exact eqvAll_LL ps qs
/-- a list of lists that stands -/
def SL (K : PySem.W.Frag) (H : Hp) (a : Addr) (ps : List (List Int)) : Prop := ∃ bs, SqL K H a (rs bs) ∧ LL H bs ps
theorem SL.ex {a : Addr} (s : SL K H a ps) (e : Ex H H') : SL K H' a ps := let ⟨bs, h1, h2⟩ := s; ⟨bs, ex_l e h1, h2.ex e⟩
theorem sl_of {a : Addr} (h : H a = some (.lst (rs bs))) (l : LL H bs ps) : SL K H a ps := ⟨bs, sq_of h, l⟩
theorem dp_SL {a : Addr} (s : SL K H a ps) : Dp K H (.ref a) (.list (ps.map dI)) := let ⟨_, h1, h2⟩ := s; .lst h1 (dpAll_LL h2)
/-- a new list of new lists -/
def NewLL (H1 H2 : Hp) (p : Addr) (bs : List Addr) (ps : List (List Int)) : Prop := H1 p = none ∧ (∀ b ∈ bs, H1 b = none) ∧ bs.Nodup ∧ p ∉ bs ∧ Ex H1 H2 ∧ H2 p = some (.lst (rs bs)) ∧ LL H2 bs ps
theorem NewLL.back {H0 H1 H2 : Hp} {p : Addr} (n : NewLL H1 H2 p bs ps) (e : Ex H0 H1) : NewLL H0 H2 p bs ps := let ⟨a, b, c, d, f, g, h⟩ := n; ⟨fresh_back e a, fun x hx => fresh_back e (b x hx), c, d, e.trans f, g, h⟩
theorem NewLL.sl {H1 H2 : Hp} {p : Addr} (n : NewLL H1 H2 p bs ps) : SL K H2 p ps := sl_of n.2.2.2.2.2.1 n.2.2.2.2.2.2
def EvLL (te : TE) (σ : L2.St) (H : Hp) (ps : List (List Int)) : Prop := ∀ H1, Ex H H1 → ∀ Q : VK, (∀ p bs H2, NewLL H1 H2 p bs ps → Q (.ref p) H2) → te σ H1 Q
def RetLL (ps : List (List Int)) (H : Hp) (Q : VK) : Prop := ∀ p bs H2, NewLL H H2 p bs ps → Q (.ref p) H2
end
section
variable {K : PySem.W.Frag} {σ : L2.St} {H H' : Hp} {ta tb tc te tx tl : TE} {t u : TT} {x y z v : V} {i j L : Int} {a b c : Addr} {ns ms hs xs : List Int} {D : Ends} {tu tw tz : TS} {g : TG} {tg : TA} {E : XK} {bs cs : List Addr} {ps qs : List (List Int)}
theorem EvLL.mono (e : Ex H H') (h : EvLL te σ H ps) : EvLL te σ H' ps := fun H1 a Q q => h H1 (e.trans a) Q q
theorem rv_eqLL (ha : SL K H a ps) (hb : SL K H b qs) : RV (rEqD K) (.ref a) (.ref b) H (.bl (decide (ps = qs))) := fun H1 e Q q =>
  ⟨_, _, dp_SL (ha.ex e), dp_SL (hb.ex e), shaped_LL _, shaped_LL _, by rw [eqv_LL]; exact q H1 (Ex.refl H1)⟩
theorem rv_neLL (ha : SL K H a ps) (hb : SL K H b qs) : RV (rNeD K) (.ref a) (.ref b) H (.bl (!decide (ps = qs))) := fun H1 e Q q =>
  ⟨_, _, dp_SL (ha.ex e), dp_SL (hb.ex e), shaped_LL _, shaped_LL _, by rw [eqv_LL]; exact q H1 (Ex.refl H1)⟩
theorem ev_neSS (h1 : Ev ta σ H (.ref a)) (h2 : Ev tb σ H (.ref b)) (ha : SL K H a ps) (hb : SL K H b qs) : Ev (tOp (rNeD K) ta tb) σ H (.bl (!decide (ps = qs))) := ev_op h1 h2 (rv_neLL ha hb)
theorem ev_neNS (h1 : EvLL ta σ H ps) (h2 : Ev tb σ H (.ref b)) (hb : SL K H b qs) : Ev (tOp (rNeD K) ta tb) σ H (.bl (!decide (ps = qs))) := fun H1 e Q q => h1 H1 e _ fun p bs H2 n => h2 H2 (e.trans n.2.2.2.2.1) _ fun H3 e3 =>
  rv_neLL (n.sl.ex e3) (hb.ex ((e.trans n.2.2.2.2.1).trans e3)) H3 (Ex.refl H3) Q fun H4 e4 => q H4 ((n.2.2.2.2.1.trans e3).trans e4)
theorem ev_eqNS (h1 : EvLL ta σ H ps) (h2 : Ev tb σ H (.ref b)) (hb : SL K H b qs) : Ev (tOp (rEqD K) ta tb) σ H (.bl (decide (ps = qs))) := fun H1 e Q q => h1 H1 e _ fun p bs H2 n => h2 H2 (e.trans n.2.2.2.2.1) _ fun H3 e3 =>
  rv_eqLL (n.sl.ex e3) (hb.ex ((e.trans n.2.2.2.2.1).trans e3)) H3 (Ex.refl H3) Q fun H4 e4 => q H4 ((n.2.2.2.2.1.trans e3).trans e4)
theorem ev_eqLLN (h1 : EvLL ta σ H ps) (h2 : EvLL tb σ H qs) : Ev (tOp (rEqD K) ta tb) σ H (.bl (decide (ps = qs))) := fun H1 e Q q => h1 H1 e _ fun p bs H2 n => h2 H2 (e.trans n.2.2.2.2.1) _ fun p2 bs2 H3 n2 =>
  rv_eqLL (n.sl.ex n2.2.2.2.2.1) n2.sl H3 (Ex.refl H3) Q fun H4 e4 => q H4 ((n.2.2.2.2.1.trans n2.2.2.2.2.1).trans e4)
/-- of two new lists of what stands -/
theorem ev_neSl (h1 : EvL ta σ H (rs bs)) (h2 : EvL tb σ H (rs cs)) (l1 : LL H bs ps) (l2 : LL H cs qs) : Ev (tOp (rNeD K) ta tb) σ H (.bl (!decide (ps = qs))) := fun H1 e Q q => h1 H1 e _ fun p H2 _ e2 h3 => h2 H2 (e.trans e2) _ fun r H3 _ e3 h4 =>
  have e03 := (e.trans e2).trans e3
  rv_neLL (sl_of (e3 _ _ h3) (l1.ex e03)) (sl_of h4 (l2.ex e03)) H3 (Ex.refl H3) Q fun H4 e4 => q H4 ((e2.trans e3).trans e4)
theorem el_dropR (h : Ev te σ H (.ref a)) (hs : SqL K H a (rs bs)) (hk : Ev tb σ H (.int 1)) : EvL (tSl (rSlL K) te (tPart tb) tNoPart) σ H (rs (bs.drop 1)) :=
  el_as (el_sl h (eo_some hk) eo_none hs) (by unfold rs; have := cut_drop (bs.map V.ref) 1; rw [List.map_drop]; exact this)
/-- a list of two or three new lists -/
theorem ell_nil : EvLL (tLst tNil) σ H [] := fun H1 _ Q q => ⟨Nat.zero_le _, fun p hp => q p [] _ ⟨hp, (fun _ h => by cases h), List.nodup_nil, (fun h => by cases h), Ex.new hp, upd_same, .nil⟩⟩
theorem ell_two {p1 p2 : List Int} (h1 : EvL ta σ H (p1.map V.int)) (h2 : EvL tb σ H (p2.map V.int)) : EvLL (tLst (tCons ta (tCons tb tNil))) σ H [p1, p2] := fun H1 e Q q => h1 H1 e _ fun a H2 ha e2 h3 => h2 H2 (e.trans e2) _ fun b H3 hb e3 h4 => ⟨Nat.le_of_ble_eq_true rfl, fun p hp =>
  q p [a, b] _ ⟨fresh_back (e2.trans e3) hp, fun x hx => by
    simp only [List.mem_cons, List.not_mem_nil, or_false] at hx
    rcases hx with rfl | rfl
    · exact ha
    · exact fresh_back e2 hb, List.nodup_cons.mpr ⟨by simpa using ne_of_none h3 hb, List.nodup_cons.mpr ⟨(fun h => by cases h), List.nodup_nil⟩⟩, by
    simp only [List.mem_cons, List.not_mem_nil, or_false, not_or]
    exact ⟨(ne_of_none (e3 _ _ h3) hp).symm, (ne_of_none h4 hp).symm⟩, (e2.trans e3).trans (Ex.new hp), upd_same, .cons (Ex.new hp _ _ (e3 _ _ h3)) (.cons (Ex.new hp _ _ h4) .nil)⟩⟩
theorem ell_three {p1 p2 p3 : List Int} (h1 : EvL ta σ H (p1.map V.int)) (h2 : EvL tb σ H (p2.map V.int)) (h5 : EvL tc σ H (p3.map V.int)) : EvLL (tLst (tCons ta (tCons tb (tCons tc tNil)))) σ H [p1, p2, p3] := fun H1 e Q q => h1 H1 e _ fun a H2 ha e2 h3 => h2 H2 (e.trans e2) _ fun b H3 hb e3 h4 => h5 H3 ((e.trans e2).trans e3) _ fun c H4 hc e4 h6 => ⟨Nat.le_of_ble_eq_true rfl, fun p hp =>
  q p [a, b, c] _ ⟨fresh_back ((e2.trans e3).trans e4) hp, fun x hx => by
    simp only [List.mem_cons, List.not_mem_nil, or_false] at hx
    rcases hx with rfl | rfl | rfl
    · exact ha
    · exact fresh_back e2 hb
    · exact fresh_back (e2.trans e3) hc, List.nodup_cons.mpr ⟨by
      simp only [List.mem_cons, List.not_mem_nil, or_false, not_or]
      exact ⟨ne_of_none h3 hb, ne_of_none (e3 _ _ h3) hc⟩, List.nodup_cons.mpr ⟨by simpa using ne_of_none h4 hc, List.nodup_cons.mpr ⟨(fun h => by cases h), List.nodup_nil⟩⟩⟩, by
    simp only [List.mem_cons, List.not_mem_nil, or_false, not_or]
    exact ⟨(ne_of_none (e4 _ _ (e3 _ _ h3)) hp).symm, (ne_of_none (e4 _ _ h4) hp).symm, (ne_of_none h6 hp).symm⟩, ((e2.trans e3).trans e4).trans (Ex.new hp), upd_same, .cons (Ex.new hp _ _ (e4 _ _ (e3 _ _ h3))) (.cons (Ex.new hp _ _ (e4 _ _ h4)) (.cons (Ex.new hp _ _ h6) .nil))⟩⟩

def CgL (H : Hp) (Dl : Addr) (ps : List (List Int)) (H' : Hp) : Prop := ∃ bs, NewLL H H' Dl bs ps
theorem CgL.start {Dl : Addr} (h : H Dl = none) : CgL H Dl [] (upd H Dl (.lst [])) := ⟨[], h, (fun _ h => by cases h), List.nodup_nil, (fun h => by cases h), Ex.new h, upd_same, .nil⟩
theorem cgl_turn {σ2 : L2.St} {Dl : Addr} {p : List Int} (n : CgL H Dl ps H') (hz : ps.length < 100000) (he : EvL te σ2 H' (p.map V.int)) :
    tYes σ2 H' fun b H3 => if b = true then te σ2 H3 fun y H4 => ∃ acc, H4 Dl = some (.lst acc) ∧ acc.length < sizeLine ∧ CgL H Dl (ps ++ [p]) (upd H4 Dl (.lst (acc ++ [y]))) else CgL H Dl (ps ++ [p]) H3 := by
  obtain ⟨bs, n1, n2, n3, n4, n5, n6, n7⟩ := n
  show te σ2 H' fun y H4 => ∃ acc, H4 Dl = some (.lst acc) ∧ acc.length < sizeLine ∧ CgL H Dl (ps ++ [p]) (upd H4 Dl (.lst (acc ++ [y])))
  refine he H' (Ex.refl H') _ fun q H4 hq e4 h4 => ⟨rs bs, e4 _ _ n6, sz_lt (by rw [rs_len, n7.len]; exact hz), bs ++ [q], n1, ?_, ?_, ?_, (n5.trans e4).mut n1, ?_, ?_⟩
  · intro b hb
    rcases List.mem_append.mp hb with hb | hb
    · exact n2 b hb
    · have : b = q := by simpa using hb
      rw [this]
      exact fresh_back n5 hq
  · rw [List.nodup_append]
    refine ⟨n3, by simp, fun a ha b hb e => ?_⟩
    have : b = q := by simpa using hb
    obtain ⟨o, ho⟩ := n7.std a ha
    rw [e, this, hq] at ho
    cases ho
  · intro h
    rcases List.mem_append.mp h with h | h
    · exact n4 h
    · have : Dl = q := by simpa using h
      rw [this] at n6
      rw [hq] at n6
      cases n6
  · rw [upd_same]
    unfold rs
    rw [List.map_append]
    rfl
  · refine ((n7.ex e4).snoc h4).mono fun b hb o ho => ?_
    rw [upd_ne fun z => ?_]
    · exact ho
    · rw [z] at hb
      rcases List.mem_append.mp hb with hb | hb
      · exact n4 hb
      · have : Dl = q := by simpa using hb
        rw [this] at n6
        rw [hq] at n6
        cases n6
/-- over range(n) -/
theorem ell_cR {k : Nat} {vs : List Nat} {hi : Int} (f : Nat → List Int) (h : EvA tg σ H [.int hi]) (h1 : -50000 ≤ hi ∧ hi ≤ 50000) (hw : ∀ x, wipe ((wipe σ vs).set k (some x)) vs = wipe σ vs)
    (he : ∀ i : Nat, (i : Int) < hi → EvL te ((wipe σ vs).set k (some (.int (i : Int)))) H ((f i).map V.int)) : EvLL (tLc (iRng1 tg) (gName k) tYes te vs) σ H ((List.range hi.toNat).map f) := fun H0 e Q q => h H0 e _ fun H1 e1 => ⟨hi, rfl, by omega, by omega, fun Dl hD =>
  lc_range (lo := 0) (n := hi.toNat) (fun i H' => CgL H1 Dl (((List.range hi.toNat).take i).map f) H') (CgL.start hD) (fun i H' hi' p => ⟨hw _, by
    have e0 : (0 : Int) + (i : Int) = (i : Int) := Int.zero_add _
    rw [e0]
    have e2 : ((List.range hi.toNat).take (i + 1)).map f = ((List.range hi.toNat).take i).map f ++ [f i] := by
      rw [List.take_add_one, range_at hi', List.map_append]
      rfl
    rw [e2]
    have hex : Ex H1 H' := p.choose_spec.2.2.2.2.1
    exact cgl_turn p (by rw [List.length_map, List.length_take, List.length_range]; omega) ((he i (by omega)).mono ((e.trans e1).trans hex))⟩) (fun H' p => by
    have hl : (List.range hi.toNat).take hi.toNat = List.range hi.toNat := List.take_of_length_le (by rw [List.length_range]; exact Nat.le_refl _)
    rw [hl] at p
    obtain ⟨bs, n⟩ := p
    exact q Dl bs H' (n.back e1))⟩
/-- over a list of lists -/
theorem ell_cS {k : Nat} {vs : List Nat} (f : List Int → List Int) (h : Ev tl σ H (.ref a)) (hx : SL K H a ps) (hz : ps.length ≤ 50000) (hw : ∀ x, wipe ((wipe σ vs).set k (some x)) vs = wipe σ vs)
    (he : ∀ b p, p ∈ ps → H b = some (.lst (p.map V.int)) → EvL te ((wipe σ vs).set k (some (.ref b))) H ((f p).map V.int)) : EvLL (tLc (iList K tl) (gName k) tYes te vs) σ H (ps.map f) := fun H0 e Q q => h H0 e _ fun H1 e1 => by
  obtain ⟨bs, h1, h2⟩ := hx
  have e01 := e.trans e1
  have hbl := h2.len
  refine ⟨a, rfl, ⟨rs bs, ex_l e01 h1⟩, fun Dl hD => lc_list (xs := rs bs) (fun i H' => CgL H1 Dl ((ps.take i).map f) H') (CgL.start hD) (fun i H' _ p => ex_l (e01.trans p.choose_spec.2.2.2.2.1) h1) (fun i x H' hi p => ⟨hw x, ?_⟩) (fun H' p => ?_)⟩
  · obtain ⟨b, hb, rfl⟩ := rs_at hi
    obtain ⟨p0, hp0, hbo⟩ := h2.get hb
    have e2 : (ps.take (i + 1)).map f = (ps.take i).map f ++ [f p0] := by
      rw [List.take_add_one, hp0, List.map_append]
      rfl
    rw [e2]
    have hex : Ex H1 H' := p.choose_spec.2.2.2.2.1
    exact cgl_turn p (by rw [List.length_map, List.length_take]; omega) ((he b p0 (List.mem_of_getElem? hp0) hbo).mono (e01.trans hex))
  · rw [rs_len, hbl, List.take_length] at p
    obtain ⟨bs, n⟩ := p
    exact q Dl bs H' (n.back e1)
/-- a list of other things, over a list of lists -/
theorem el_cS {β : Type} {k : Nat} {vs : List Nat} (enc : β → V) (f : List Int → β) (h : Ev tl σ H (.ref a)) (hx : SL K H a ps) (hz : ps.length ≤ 50000) (hw : ∀ x, wipe ((wipe σ vs).set k (some x)) vs = wipe σ vs)
    (he : ∀ b p, p ∈ ps → H b = some (.lst (p.map V.int)) → Ev te ((wipe σ vs).set k (some (.ref b))) H (enc (f p))) : EvL (tLc (iList K tl) (gName k) tYes te vs) σ H ((ps.map f).map enc) := fun H0 e Q q => h H0 e _ fun H1 e1 => by
  obtain ⟨bs, h1, h2⟩ := hx
  have e01 := e.trans e1
  have hbl := h2.len
  refine ⟨a, rfl, ⟨rs bs, ex_l e01 h1⟩, fun Dl hD => lc_list (xs := rs bs) (fun i H' => Cg H1 Dl (((ps.take i).map f).map enc) H') (Cg.start hD) (fun i H' _ p => ex_l (e01.trans p.2.1) h1) (fun i x H' hi p => ⟨hw x, ?_⟩) (fun H' p => ?_)⟩
  · obtain ⟨b, hb, rfl⟩ := rs_at hi
    obtain ⟨p0, hp0, hbo⟩ := h2.get hb
    have e2 : ((ps.take (i + 1)).map f).map enc = ((ps.take i).map f).map enc ++ (some (enc (f p0))).toList := by
      rw [List.take_add_one, hp0, List.map_append, List.map_append]
      rfl
    rw [e2]
    exact cg_turn p (by rw [List.length_map, List.length_map, List.length_take]; omega) et_yes fun y hy => by
      cases hy
      exact (he b p0 (List.mem_of_getElem? hp0) hbo).mono (e01.trans p.2.1)
  · rw [rs_len, hbl, List.take_length] at p
    exact q Dl H' (fresh_back e1 p.1) (e1.trans p.2.1) p.2.2
/-- for i, x in enumerate(xs), xs of any kind -/
theorem q_forEX {k1 k2 : Nat} {xs : List V} (h : Ev tl σ H (.ref a)) (hx : SqL K H a xs) (Pv : Nat → L2.St → Hp → Prop) (h0 : ∀ H1, Ex H H1 → Pv 0 σ H1) (hl : ∀ i σ' H', i ≤ xs.length → Pv i σ' H' → SqL K H' a xs)
    (hs : ∀ i x T σ' H', xs[i]? = some x → Pv i σ' H' → H' T = none → tu { D with nx := Pv (i + 1), ct := Pv (i + 1), bk := tz D } ((σ'.set k1 (some (.int (i : Nat)))).set k2 (some x)) (upd H' T (.tup [.int (i : Nat), x]))) (hd : ∀ σ' H', Pv xs.length σ' H' → tz D σ' H') :
    tSeq (tFor (iEnum K (tCons tl tNil)) (g2 K k1 k2) tu) tz D σ H :=
  h H (Ex.refl H) _ fun H1 e => ⟨a, _, rfl, ex_l e hx, for_enum (D := { D with nx := tz D }) Pv (h0 H1 e) hl (fun i x T σ' H' hi q hT => g2_go upd_same (hs i x T σ' H' hi q hT)) hd⟩
/-- max of a new list -/
theorem ev_maxN {m0 : Int} (h : EvL ta σ H (ns.map V.int)) (hn : 0 < ns.length) (hm : ∀ m, m ∈ ns → (∀ y ∈ ns, y ≤ m) → m = m0) : Ev (tCB (rMax K) (tCons ta tNil)) σ H (.int m0) := fun H1 e Q q => h H1 e _ fun p H2 _ e2 h2 => ⟨p, ns, rfl, sq_map h2, hn, fun m h3 h4 => by
  rw [hm m h3 h4]
  exact q H2 e2⟩
theorem ev_lenS (ha : Ev ta σ H (.ref a)) (h : SL K H a ps) : Ev (tCB (rLenS K) (tCons ta tNil)) σ H (.int (ps.length : Int)) := by
  obtain ⟨bs, h1, h2⟩ := h
  refine ev_is (ev_lenX ha h1) ?_
  rw [rs_len, h2.len]
theorem ev_isiS {T : String} {b : Bool} (h : Ev ta σ H (.ref a)) (hs : SL K H a ps) (hk : kitB "list" T = some b) : Ev (tCB (rIsi K) (tCons ta (tCons (tC (.ty T)) tNil))) σ H (.bl b) := let ⟨_, h1, _⟩ := hs; ev_isiL h h1 hk
theorem q_asgLLs {k : Nat} (h : EvLL te σ H ps) (q : ∀ p bs H1, NewLL H H1 p bs ps → tz D (σ.set k (some (.ref p))) H1) : tSeq (tAsg te (gName k)) tz D σ H := h H (Ex.refl H) _ q
theorem s_retLL (h : EvLL te σ H ps) (q : ∀ p bs H1, NewLL H H1 p bs ps → D.rt (.ref p) H1) : tRet te D σ H := h H (Ex.refl H) _ q
theorem q_parL_LL {k1 k2 : Nat} {xs : List V} (h : EvL ta σ H xs) (h2 : EvLL tb σ H ps) (q : ∀ p d bs H1, H p = none → Ex H H1 → H1 p = some (.lst xs) → NewLL H H1 d bs ps → tz D ((σ.set k1 (some (.ref p))).set k2 (some (.ref d))) H1) :
    tSeq (tPar k1 k2 (tCons ta (tCons tb tNil))) tz D σ H := h H (Ex.refl H) _ fun p H1 hp e1 h3 => h2 H1 e1 _ fun d bs H2 n => ⟨.ref p, .ref d, rfl, q p d bs H2 hp (e1.trans n.2.2.2.2.1) (n.2.2.2.2.1 _ _ h3) (n.back e1)⟩
theorem q_parLL_L {k1 k2 : Nat} {xs : List V} (h2 : EvLL ta σ H ps) (h : EvL tb σ H xs) (q : ∀ d bs p H1 H2, NewLL H H1 d bs ps → H1 p = none → Ex H1 H2 → H2 p = some (.lst xs) → tz D ((σ.set k1 (some (.ref d))).set k2 (some (.ref p))) H2) :
    tSeq (tPar k1 k2 (tCons ta (tCons tb tNil))) tz D σ H := h2 H (Ex.refl H) _ fun d bs H1 n => h H1 n.2.2.2.2.1 _ fun p H2 hp e2 h3 => ⟨.ref d, .ref p, rfl, q d bs p H1 H2 n hp e2 h3⟩
theorem en_sliceS {k : Int} (h : Ev te σ H (.ref a)) (hs : SqL K H a (ns.map V.int)) (hl : Ev ta σ H (.int i)) (hk : Ev tb σ H (.int k)) (h0 : k ≠ 0) : ∀ H1, Ex H H1 → ∀ Q : VK, (∀ (p : Addr) (ms : List Int) H2, H1 p = none → Ex H1 H2 → H2 p = some (.lst (ms.map V.int)) → (∀ z ∈ ms, z ∈ ns) → ms.length ≤ ns.length → Q (.ref p) H2) → tSlS K te (tPart ta) (tPart tb) σ H1 Q := fun H1 e Q q =>
  h H1 e _ fun H2 e2 => hl H2 (e.trans e2) _ fun H3 e3 => ⟨i, rfl, hk H3 ((e.trans e2).trans e3) _ fun H4 e4 => ⟨k, rfl, a, ns.map V.int, rfl, ex_l (((e.trans e2).trans e3).trans e4) hs, fun z => h0 (Option.some.inj z), fun ys hy hl p hp => by
    obtain ⟨ms, rfl⟩ : ∃ ms : List Int, ys = ms.map V.int := by
      clear hl
      induction ys with
      | nil => exact ⟨[], rfl⟩
      | cons y ys ih =>
        obtain ⟨ms, e⟩ := ih fun z hz => hy z (List.mem_cons_of_mem _ hz)
        obtain ⟨n, _, rfl⟩ := List.mem_map.mp (hy y List.mem_cons_self)
        exact ⟨n :: ms, by rw [e]; rfl⟩
    refine q p ms _ (fresh_back ((e2.trans e3).trans e4) hp) (((e2.trans e3).trans e4).trans (Ex.new hp)) upd_same (fun z hz => ?_) (by simpa using hl)
    obtain ⟨n, hn, e⟩ := List.mem_map.mp (hy (.int z) (List.mem_map.mpr ⟨z, hz, rfl⟩))
    cases e
    exact hn⟩⟩
end
end Rh

namespace Rh
open PySem PySem.Spec PyProof.Rows L2 Evl
def clsOf (M : List Int) (L : Int) : List (List Int) := (List.range L.toNat).map fun (r : Nat) => cl M L r
theorem clsOf_at {M : List Int} {L r : Int} (hr : 0 ≤ r ∧ r < L) : (clsOf M L)[r.toNat]? = some (cl M L r) := by
  unfold clsOf
  rw [List.getElem?_map, List.getElem?_range (by omega)]
  show some (cl M L ((r.toNat : Nat) : Int)) = _
  congr 2
  omega
theorem clsOf_snoc {L : Int} (hL : 0 < L) (M : List Int) (n : Int) : clsOf (M ++ [n]) L = (clsOf M L).set (n % L).toNat (cl M L (n % L) ++ [n / L]) := by
  have hr := rest_ok hL n
  refine List.ext_getElem? fun i => ?_
  have hlen : (clsOf M L).length = L.toNat := by unfold clsOf; rw [List.length_map, List.length_range]
  by_cases e : i = (n % L).toNat
  · subst e
    rw [clsOf_at hr, List.getElem?_set_self (by omega), cl_append]
    have e1 : cl [n] L (n % L) = [n / L] := by simp [cl]
    rw [e1]
  · rw [List.getElem?_set_ne (by omega)]
    by_cases hi : i < L.toNat
    · have e2 : ((i : Nat) : Int).toNat = i := by omega
      have a1 := clsOf_at (M := M ++ [n]) (L := L) (r := ((i : Nat) : Int)) ⟨by omega, by omega⟩
      have a2 := clsOf_at (M := M) (L := L) (r := ((i : Nat) : Int)) ⟨by omega, by omega⟩
      rw [e2] at a1 a2
      rw [a1, a2, cl_append]
      have hi2 : ¬ n % L = (i : Int) := by omega
      have e1 : cl [n] L (i : Int) = [] := by simp [cl, hi2]
      rw [e1, List.append_nil]
    · rw [List.getElem?_eq_none (by unfold clsOf; rw [List.length_map, List.length_range]; omega), List.getElem?_eq_none (by omega)]
theorem clsOf_parts (h : List Int) (L : Int) : (clsOf (padM h L) L).map heapOf = partsOf h L := by
  unfold clsOf partsOf
  rw [List.map_map]
  rfl
theorem clsOf_len {M p : List Int} {L : Int} (h : p ∈ clsOf M L) : p.length ≤ M.length := by
  obtain ⟨r, _, rfl⟩ := List.mem_map.mp h
  rw [cl_len]
  exact cnt_le _ _ _
theorem zero_flat (n : Nat) : (List.replicate n [V.int 0]).flatten = (zeros n).map V.int := by
  unfold zeros
  induction n with
  | zero => rfl
  | succ n ih =>
    rw [List.replicate_succ, List.replicate_succ, List.flatten_cons, ih, List.map_cons]
    rfl
theorem joinF_app (N : List Int) (L : Int) : ∀ (a b : List (List Int)) (r : Nat), joinF N L r (a ++ b) = joinF N L r a ++ joinF N L (r + a.length) b
  | [], b, r => by simp [joinF]
  | q :: a, b, r => by
    show marksJ N L r q ++ joinF N L (r + 1) (a ++ b) = marksJ N L r q ++ joinF N L (r + 1) a ++ _
    rw [joinF_app N L a b (r + 1), List.append_assoc, List.length_cons]
    congr 3
    omega
theorem joinF_take (N : List Int) (L : Int) (ps : List (List Int)) (k : Nat) : (joinF N L 0 (ps.take k)).length ≤ (joinF N L 0 ps).length := by
  have := joinF_app N L (ps.take k) (ps.drop k) 0
  rw [List.take_append_drop] at this
  rw [this, List.length_append]
  omega
/-- what may be joined -/
structure JPre (left : List Int) (ps : List (List Int)) (L : Int) : Prop where
  heap : IsHeap left
  few : left.length ≤ 200
  core : rimsH left L = []
  all : ∀ p ∈ ps, IsHeap p ∧ p.length ≤ 200
  len : ((ps.length : Nat) : Int) = L
  lo : 1 ≤ L
  hi : L ≤ 100
theorem JPre.pos {left : List Int} {ps : List (List Int)} {L : Int} (j : JPre left ps L) : 0 < L := by have := j.lo; omega
theorem JPre.join {left : List Int} {ps : List (List Int)} {L : Int} (j : JPre left ps L) : Joins (joinM left ps L) left ps L ∧ (joinF (toldJ left ps L) L 0 ps).length = left.length + padN left L + L.toNat * deepOf ps := join_ok j.pos j.heap j.core j.len fun p hp => (j.all p hp).1
theorem JPre.size {left : List Int} {ps : List (List Int)} {L : Int} (j : JPre left ps L) : deepOf ps ≤ 200 ∧ padN left L < 100 ∧ L.toNat * deepOf ps ≤ 20000 := by
  have h1 := deep_bound fun p hp => (j.all p hp).2
  have h2 := padN_lt (h := left) j.pos
  have h3 := j.hi
  refine ⟨h1, by omega, ?_⟩
  exact Nat.le_trans (Nat.mul_le_mul (show L.toNat ≤ 100 by omega) h1) (by decide)
theorem JPre.max {left : List Int} {ps : List (List Int)} {L : Int} (j : JPre left ps L) {m : Int} (h1 : m ∈ ps.map fun p => ((p.length : Nat) : Int)) (h2 : ∀ y ∈ ps.map fun p => ((p.length : Nat) : Int), y ≤ m) : m = ((deepOf ps : Nat) : Int) := by
  have hne : ps ≠ [] := by
    intro e
    rw [e] at h1
    cases h1
  obtain ⟨p, hp, e⟩ := deep_mem hne
  have h3 := h2 _ (List.mem_map.mpr ⟨p, hp, rfl⟩)
  obtain ⟨q, hq, rfl⟩ := List.mem_map.mp h1
  have h4 := deep_le hq
  omega
section
variable (K : PySem.W.Frag)
def sp_check_few : Sp := spi (fun i => 1 ≤ i ∧ i ≤ 100) fun _ => RetV .non
def sp_parts : Sp := fun vs H Q _ => ∃ (a : Addr) (ns : List Int) (L : Int), vs = [.ref a, .int L] ∧ H a = some (.lst (ns.map V.int)) ∧ (IsHeap ns ∧ ns.length ≤ 25000 ∧ 1 ≤ L ∧ L ≤ 100) ∧ RetLL (partsOf ns L) H Q
def sp_joined : Sp := fun vs H Q _ => ∃ (a b : Addr) (ns : List Int) (ps : List (List Int)) (L : Int), vs = [.ref a, .ref b, .int L] ∧ H a = some (.lst (ns.map V.int)) ∧ SL K H b ps ∧ JPre ns ps L ∧ RetL ((joinM ns ps L).map V.int) H Q
def sp_l_heap_right : Sp := fun vs H Q _ => ∃ (a : Addr) (ns : List Int) (L : Int), vs = [.ref a, .int L] ∧ H a = some (.lst (ns.map V.int)) ∧ (Made ns ∧ 1 ≤ L ∧ L ≤ 100) ∧ RetV (.bl true) H Q
def sp_l_joined_right : Sp := fun vs H Q _ => ∃ (a b : Addr) (ns : List Int) (ps : List (List Int)) (L : Int), vs = [.ref a, .ref b, .int L] ∧ H a = some (.lst (ns.map V.int)) ∧ SL K H b ps ∧ JPre ns ps L ∧ RetV (.bl true) H Q
end
section
variable {K : PySem.W.Frag} {σ : L2.St} {H H' : Hp} {ta tb tc te tx tl : TE} {t u : TT} {x y z v : V} {i j L : Int} {a b c : Addr} {ns ms hs xs : List Int} {D : Ends} {tu tw tz : TS} {g : TG} {tg : TA} {E : XK} {bs cs : List Addr} {ps qs : List (List Int)}
theorem ell_parts (h : EvA tg σ H [.ref a, .int L]) (ha : H a = some (.lst (ns.map V.int))) (hp : IsHeap ns ∧ ns.length ≤ 25000 ∧ 1 ≤ L ∧ L ≤ 100) : EvLL (tCall sp_parts [] E tg) σ H (partsOf ns L) := fun H1 e Q q => h H1 e _ fun H2 e2 =>
  ⟨a, ns, L, rfl, (e.trans e2) _ _ ha, hp, fun p bs H3 n => q p bs H3 (n.back e2)⟩
theorem ell_partsN (h : EvL ta σ H (ns.map V.int)) (hb : Ev tb σ H (.int L)) (hp : IsHeap ns ∧ ns.length ≤ 25000 ∧ 1 ≤ L ∧ L ≤ 100) : EvLL (tCall sp_parts [] E (tCons ta (tCons tb tNil))) σ H (partsOf ns L) := fun H1 e Q q => h H1 e _ fun a H2 _ e2 h2 => hb H2 (e.trans e2) _ fun H3 e3 =>
  ⟨a, ns, L, rfl, e3 _ _ h2, hp, fun p bs H3 n => q p bs H3 (n.back (e2.trans e3))⟩
theorem el_joined (h : EvA tg σ H [.ref a, .ref b, .int L]) (ha : H a = some (.lst (ns.map V.int))) (hb : SL K H b ps) (hp : JPre ns ps L) : EvL (tCall (sp_joined K) [] E tg) σ H ((joinM ns ps L).map V.int) := fun H1 e Q q => h H1 e _ fun H2 e2 =>
  ⟨a, b, ns, ps, L, rfl, (e.trans e2) _ _ ha, hb.ex (e.trans e2), hp, fun p H3 hp e3 h3 => q p H3 (fresh_back e2 hp) (e2.trans e3) h3⟩
theorem el_joinedN (h : EvL ta σ H (ns.map V.int)) (h2 : EvLL tb σ H ps) (h3 : Ev tc σ H (.int L)) (hp : JPre ns ps L) : EvL (tCall (sp_joined K) [] E (tCons ta (tCons tb (tCons tc tNil)))) σ H ((joinM ns ps L).map V.int) := fun H1 e Q q => h H1 e _ fun a H2 _ e2 q2 => h2 H2 (e.trans e2) _ fun b bs H3 n => h3 H3 ((e.trans e2).trans n.2.2.2.2.1) _ fun H4 e4 =>
  ⟨a, b, ns, ps, L, rfl, (n.2.2.2.2.1.trans e4) _ _ q2, n.sl.ex e4, hp, fun p H5 hp e5 h5 => q p H5 (fresh_back ((e2.trans n.2.2.2.2.1).trans e4) hp) (((e2.trans n.2.2.2.2.1).trans e4).trans e5) h5⟩
theorem q_asgD {k : Nat} {Good : List (Key × V) → Prop} (h : EvD te σ H Good) (q : ∀ p kvs H1, H p = none → Ex H H1 → H1 p = some (.dK kvs) → Good kvs → tz D (σ.set k (some (.ref p))) H1) : tSeq (tAsg te (gName k)) tz D σ H := h H (Ex.refl H) _ q
/-- a heap and rows of none -/
theorem el_pad {k : Nat} (h : Ev ta σ H (.ref a)) (ha : H a = some (.lst (ns.map V.int))) (hz : ns.length ≤ 30000) (h2 : Ev tb σ H (.int i)) (hi : -30000 ≤ i ∧ i ≤ 30000) (hk : i.toNat = k) : EvL (tOp rCat ta (tOp rRep (tLst (tCons (tC (.int 0)) tNil)) tb)) σ H ((ns ++ zeros k).map V.int) :=
  el_as (el_catXN h ha (el_repN (k := k) (el_lst (ea_one ev_c) (Nat.le_of_ble_eq_true rfl)) h2 (by omega) hk (by show 1 * k ≤ _; omega)) (by
    rw [zero_flat, List.length_map, List.length_map]
    show _ + (zeros k).length ≤ _
    unfold zeros
    rw [List.length_replicate]
    omega)) (by rw [zero_flat, List.map_append])
end
end Rh
namespace Rh
open PySem PySem.Spec PyProof.Rows L2 Evl
section
variable {K : PySem.W.Frag} {σ : L2.St} {H H' : Hp} {ta tb tc te tx tl : TE} {t u : TT} {x y z v : V} {i j L : Int} {a b c : Addr} {ns ms hs : List Int} {D : Ends} {tu tw tz : TS} {g : TG} {tg : TA} {E : XK} {bs : List Addr} {ps qs : List (List Int)}
theorem ell_as (h : EvLL te σ H ps) (e : ps = qs) : EvLL te σ H qs := by
  rw [← e]
  exact h
theorem ell_copy {k : Nat} {vs : List Nat} (h : Ev tl σ H (.ref a)) (hx : SL K H a ps) (hz : ps.length ≤ 50000) (hw : ∀ x, wipe ((wipe σ vs).set k (some x)) vs = wipe σ vs)
    (he : ∀ b p, p ∈ ps → H b = some (.lst (p.map V.int)) → EvL te ((wipe σ vs).set k (some (.ref b))) H (p.map V.int)) : EvLL (tLc (iList K tl) (gName k) tYes te vs) σ H ps :=
  ell_as (ell_cS (fun p => p) h hx hz hw he) (by simp)
theorem go_heap_right (ha : H a = some (.lst (ns.map V.int))) (hp : Made ns ∧ 1 ≤ L ∧ L ≤ 100) : SpV sp_l_heap_right [.ref a, .int L] H (.bl true) := fun _ e Q q E => ⟨a, ns, L, rfl, e _ _ ha, hp, q⟩
theorem go_joined_right (ha : H a = some (.lst (ns.map V.int))) (hb : SL K H b ps) (hp : JPre ns ps L) : SpV (sp_l_joined_right K) [.ref a, .ref b, .int L] H (.bl true) := fun _ e Q q E => ⟨a, b, ns, ps, L, rfl, e _ _ ha, hb.ex e, hp, q⟩
theorem ev_joined_rightN (h1 : EvL ta σ H (ns.map V.int)) (h2 : Ev tb σ H (.ref b)) (h3 : Ev tc σ H (.int L)) (hb : SL K H b ps) (hp : JPre ns ps L) : Ev (tCall (sp_l_joined_right K) [] E (tCons ta (tCons tb (tCons tc tNil)))) σ H (.bl true) := fun H1 e Q q => h1 H1 e _ fun p H2 _ e2 q2 => h2 H2 (e.trans e2) _ fun H3 e3 => h3 H3 ((e.trans e2).trans e3) _ fun H4 e4 =>
  ⟨p, b, ns, ps, L, rfl, (e3.trans e4) _ _ q2, hb.ex (((e.trans e2).trans e3).trans e4), hp, fun H5 e5 => q H5 (((e2.trans e3).trans e4).trans e5)⟩
/-- the pair of a new list's core and a number -/
theorem ec_coreN (h : EvL ta σ H (ns.map V.int)) (hL : Ev tb σ H (.int L)) (hp : Len ns ∧ 0 < L ∧ L.natAbs.log2 < 9000) : EvC (tCall (sp_l_core K) [] E (tCons ta (tCons tb tNil))) σ H (coreOf ns L) (rimsIn ns L) := fun H1 e Q q =>
  h H1 e _ fun a H2 _ e2 h2 => hL H2 (e.trans e2) _ fun H3 e3 => ⟨a, ns, L, rfl, sq_map (e3 _ _ h2), hp, fun p c H4 hp hc e4 h1 h2 => q p c H4 (fresh_back (e2.trans e3) hp) (fresh_back (e2.trans e3) hc) ((e2.trans e3).trans e4) h1 h2⟩
theorem el_first {cs : List Int} {n : Int} (h : EvC ta σ H cs n) : EvL (tOp (rIxT K) ta (tC (.int 0))) σ H (cs.map V.int) := fun H1 e Q q => h H1 e _ fun p c H2 hp hc e2 h1 h2 => ⟨p, [.ref c, .int n], 0, .ref c, rfl, rfl, st_of h2, rfl, q c H2 hc e2 h1⟩
theorem ev_neCU {cs ds : List Int} {n m : Int} (h1 : EvC ta σ H cs n) (h2 : EvU tb σ H [.ref c, .int m]) (hc : SqL K H c (ds.map V.int)) : Ev (tOp (rNeD K) ta tb) σ H (.bl (!(decide (cs = ds) && decide (n = m)))) := fun H1 e Q q => h1 H1 e _ fun p k H2 _ _ e2 q1 q2 => h2 H2 (e.trans e2) _ fun r H3 _ e3 q3 =>
  ⟨_, _, dp_pair (st_of (e3 _ _ q2)) (sq_map (e3 _ _ q1)), dp_pair (st_of q3) (ex_l ((e.trans e2).trans e3) hc), shaped_pair _ _, shaped_pair _ _, by
    rw [eqv_pair]
    exact q H3 (e2.trans e3)⟩
theorem en_heapS (h : ∀ H1, Ex H H1 → ∀ Q : VK, (∀ (p : Addr) (ms : List Int) H2, H1 p = none → Ex H1 H2 → H2 p = some (.lst (ms.map V.int)) → (∀ z ∈ ms, z ∈ ns) → ms.length ≤ ns.length → Q (.ref p) H2) → ta σ H1 Q) (hb : Ev tb σ H (.int j)) (hp : Bits ns ∧ Len ns) (hj : 0 ≤ j ∧ j ≤ 100)
    {k : Nat} (q : ∀ (p : Addr) (ms : List Int) H1, H p = none → Ex H H1 → H1 p = some (.lst (ms.map V.int)) → Made ms → tz D (σ.set k (some (.ref p))) H1) : tSeq (tAsg (tCall (sp_l_heap K) [] E (tCons ta (tCons tb tNil))) (gName k)) tz D σ H :=
  h H (Ex.refl H) _ fun p ms H2 _ e2 h2 hm hl => hb H2 e2 _ fun H3 e3 => ⟨p, ms, j, rfl, sq_map (e3 _ _ h2), ⟨⟨fun z hz => hp.1 z (hm z hz), Nat.le_trans hl hp.2⟩, hj⟩, fun r H4 hr e4 h4 => q r _ H4 (fresh_back (e2.trans e3) hr) ((e2.trans e3).trans e4) h4 (heapM_made _ _)⟩
theorem s_appIf {xs : List V} {l : Addr} {b : Bool} (hl : H l = some (.lst xs)) (ha : Ev ta σ H (.ref l)) (ht : EvT t σ H b) (hc : Ev tc σ H (.ref c)) (hcl : c ≠ l) (hco : H c = some (.lst (ms.map V.int))) (hz : xs.length < 100000)
    (k : ∀ p ps H1, Ex H H1 → p ≠ l → H1 p = some (.lst (ps.map V.int)) → (ps = ms ∨ ps = []) → D.nx σ (upd H1 l (.lst (xs ++ [.ref p])))) : tDrop (tBM K "list" rAppend ta (tCons (tIf t tc (tLst tNil)) tNil)) D σ H :=
  ha H (Ex.refl H) _ fun H1 e1 => ⟨Or.inl ⟨rfl, _, sq_of (e1 l _ hl)⟩, ht H1 e1 _ fun H2 e2 => by
    cases b with
    | true => exact hc H2 (e1.trans e2) _ fun H3 e3 => ⟨l, xs, .ref c, rfl, rfl, ((e1.trans e2).trans e3) _ _ hl, sz_lt hz, k c ms H3 ((e1.trans e2).trans e3) hcl (((e1.trans e2).trans e3) _ _ hco) (.inl rfl)⟩
    | false => exact ⟨Nat.zero_le _, fun p hp => ⟨l, xs, .ref p, rfl, rfl, Ex.new hp _ _ ((e1.trans e2) _ _ hl), sz_lt hz, k p [] _ ((e1.trans e2).trans (Ex.new hp)) (ne_of_none ((e1.trans e2) _ _ hl) hp).symm upd_same (.inr rfl)⟩⟩⟩
/-- xs[i] = a new list -/
theorem s_setLN {xs ys : List V} {l : Addr} {j : Nat} (hl : H l = some (.lst xs)) (h : EvL te σ H ys) (ho : Ev ta σ H (.ref l)) (hi : Ev tb σ H (.int (j : Int))) (hj : j < xs.length) (k : ∀ p H1, H p = none → Ex H H1 → H1 p = some (.lst ys) → D.nx σ (upd H1 l (.lst (xs.set j (.ref p))))) :
    tAsg te (gSub ta tb rSetL) D σ H := h H (Ex.refl H) _ fun p H1 hp e1 h1 => ho H1 e1 _ fun H2 e2 => hi H2 (e1.trans e2) _ fun H3 e3 => ⟨l, xs, (j : Int), j, rfl, rfl, ((e1.trans e2).trans e3) _ _ hl, ixN_nat hj, k p H3 hp ((e1.trans e2).trans e3) ((e2.trans e3) _ _ h1)⟩
theorem cut_map (ns : List Int) (lo hi : Option Int) : ∃ ms : List Int, cutV (ns.map V.int) lo hi = ms.map V.int ∧ (∀ z ∈ ms, z ∈ ns) ∧ ms.length ≤ ns.length := by
  unfold cutV
  refine ⟨(ns.drop (HT.sIx (ns.map V.int).length 0 lo)).take (HT.sIx (ns.map V.int).length (ns.map V.int).length hi - HT.sIx (ns.map V.int).length 0 lo), by rw [List.map_take, List.map_drop], fun z hz => List.mem_of_mem_drop (List.mem_of_mem_take hz), ?_⟩
  rw [List.length_take, List.length_drop]
  omega
theorem isHeap_nil : IsHeap [] := ⟨(fun x h => by cases h), List.Pairwise.nil⟩
theorem sl_put {H1 : Hp} {l p : Addr} {q : List Int} (hll : LL H1 bs ps) (hn : l ∉ bs) (hp : p ≠ l) (ho : H1 p = some (.lst (q.map V.int))) (o : HO) : LL (upd H1 l o) (bs ++ [p]) (ps ++ [q]) := (hll.snoc ho).mono fun b hb o2 h2 => by
  rw [upd_ne fun z => ?_]
  · exact h2
  · rcases List.mem_append.mp hb with hb | hb
    · exact hn (by rw [← z]; exact hb)
    · have : b = p := by simpa using hb
      exact hp (by rw [← this, z])
theorem sl_swap {H1 : Hp} {l p : Addr} {q : List Int} {k : Nat} (hll : LL H1 bs ps) (hn : l ∉ bs) (hp : p ≠ l) (ho : H1 p = some (.lst (q.map V.int))) (o : HO) : LL (upd H1 l o) (bs.set k p) (ps.set k q) := (hll.swap ho).mono fun b hb o2 h2 => by
  rw [upd_ne fun z => ?_]
  · exact h2
  · rcases List.mem_or_eq_of_mem_set hb with hb | hb
    · exact hn (by rw [← z]; exact hb)
    · exact hp (by rw [← hb, z])
end
end Rh

namespace Rh
open PySem PySem.Spec PyProof.Rows L2 Evl
def topS (i : Nat) : Stmt := PySem.Challenge.pw_rimhooks_k02_whole_parts.main.body.getD i (.Pass ⟨0, 0, 0, 0⟩)
abbrev s_is_whole : Stmt := topS 6
theorem sc_is_whole : FnScope ["thing"] ["thing"] (defScope s_is_whole) := ⟨rfl, rfl, rfl, by decide +kernel, rfl, by decide +kernel, by decide +kernel⟩
abbrev s_is_heap : Stmt := topS 7
theorem sc_is_heap : FnScope ["thing", "at", "number"] ["thing"] (defScope s_is_heap) := ⟨rfl, rfl, rfl, by decide +kernel, rfl, by decide +kernel, by decide +kernel⟩
abbrev s_check_heap : Stmt := topS 8
theorem sc_check_heap : FnScope ["heap"] ["heap"] (defScope s_check_heap) := ⟨rfl, rfl, rfl, by decide +kernel, rfl, by decide +kernel, by decide +kernel⟩
abbrev s_check_length : Stmt := topS 9
theorem sc_check_length : FnScope ["length"] ["length"] (defScope s_check_length) := ⟨rfl, rfl, rfl, by decide +kernel, rfl, by decide +kernel, by decide +kernel⟩
abbrev s_marks_of : Stmt := topS 10
theorem sc_marks_of : FnScope ["heap", "at", "number"] ["heap"] (defScope s_marks_of) := ⟨rfl, rfl, rfl, by decide +kernel, rfl, by decide +kernel, by decide +kernel⟩
abbrev s_heap_of : Stmt := topS 11
theorem sc_heap_of : FnScope ["marks", "falling", "rows", "at", "mark", "number"] ["marks"] (defScope s_heap_of) := ⟨rfl, rfl, rfl, by decide +kernel, rfl, by decide +kernel, by decide +kernel⟩
abbrev s_rims_of : Stmt := topS 13
theorem sc_rims_of : FnScope ["heap", "length", "told", "known", "mark", "row"] ["heap", "length"] (defScope s_rims_of) := ⟨rfl, rfl, rfl, by decide +kernel, rfl, by decide +kernel, by decide +kernel⟩
abbrev s_counts_of : Stmt := topS 16
theorem sc_counts_of : FnScope ["told", "length", "found", "mark"] ["told", "length"] (defScope s_counts_of) := ⟨rfl, rfl, rfl, by decide +kernel, rfl, by decide +kernel, by decide +kernel⟩
abbrev s_core : Stmt := topS 17
theorem sc_core : FnScope ["heap", "length", "found", "rest", "count", "k"] ["heap", "length"] (defScope s_core) := ⟨rfl, rfl, rfl, by decide +kernel, rfl, by decide +kernel, by decide +kernel⟩
abbrev s_rims_in : Stmt := topS 18
theorem sc_rims_in : FnScope ["heap", "length", "told", "lows", "count", "mark"] ["heap", "length"] (defScope s_rims_in) := ⟨rfl, rfl, rfl, by decide +kernel, rfl, by decide +kernel, by decide +kernel⟩
abbrev s_check_few : Stmt := topS 19
theorem sc_check_few : FnScope ["length"] ["length"] (defScope s_check_few) := ⟨rfl, rfl, rfl, by decide +kernel, rfl, by decide +kernel, by decide +kernel⟩
abbrev s_parts : Stmt := topS 20
theorem sc_parts : FnScope ["heap", "length", "told", "found", "mark", "rest", "some"] ["heap", "length"] (defScope s_parts) := ⟨rfl, rfl, rfl, by decide +kernel, rfl, by decide +kernel, by decide +kernel⟩
abbrev s_joined : Stmt := topS 21
theorem sc_joined : FnScope ["core", "parts", "length", "part", "deep", "told", "counts", "found", "rest", "rows", "mark"] ["core", "parts", "length"] (defScope s_joined) := ⟨rfl, rfl, rfl, by decide +kernel, rfl, by decide +kernel, by decide +kernel⟩
abbrev s__law_cell_at : Stmt := topS 23
theorem sc__law_cell_at : FnScope ["_law_script", "_law_k"] ["_law_script", "_law_k"] (defScope s__law_cell_at) := ⟨rfl, rfl, rfl, by decide +kernel, rfl, by decide +kernel, by decide +kernel⟩
abbrev s__law_draw : Stmt := topS 24
theorem sc__law_draw : FnScope ["_law_cell", "_law_k", "_law_many", "_law_primes"] ["_law_cell", "_law_k", "_law_many"] (defScope s__law_draw) := ⟨rfl, rfl, rfl, by decide +kernel, rfl, by decide +kernel, by decide +kernel⟩
abbrev s__law_value : Stmt := topS 25
theorem sc__law_value : FnScope ["_law_cell", "_law_k", "_law_most"] ["_law_cell", "_law_k", "_law_most"] (defScope s__law_value) := ⟨rfl, rfl, rfl, by decide +kernel, rfl, by decide +kernel, by decide +kernel⟩
abbrev s__law_heap : Stmt := topS 26
theorem sc__law_heap : FnScope ["_law_script", "_law_by", "_law_kind", "_law_most", "_law_k", "_law_cell", "_law_rows", "_law_total"] ["_law_script", "_law_by"] (defScope s__law_heap) := ⟨rfl, rfl, rfl, by decide +kernel, rfl, by decide +kernel, by decide +kernel⟩
abbrev s__law_small : Stmt := topS 27
theorem sc__law_small : FnScope ["_law_script", "_law_by", "_law_rows", "_law_k", "_law_cell"] ["_law_script", "_law_by"] (defScope s__law_small) := ⟨rfl, rfl, rfl, by decide +kernel, rfl, by decide +kernel, by decide +kernel⟩
abbrev s__law_marks : Stmt := topS 28
theorem sc__law_marks : FnScope ["_law_heap_here", "_law_at", "_law_number"] ["_law_heap_here"] (defScope s__law_marks) := ⟨rfl, rfl, rfl, by decide +kernel, rfl, by decide +kernel, by decide +kernel⟩
abbrev s__law_of : Stmt := topS 29
theorem sc__law_of : FnScope ["_law_marks_here", "_law_falling", "_law_rows", "_law_at", "_law_mark", "_law_number"] ["_law_marks_here"] (defScope s__law_of) := ⟨rfl, rfl, rfl, by decide +kernel, rfl, by decide +kernel, by decide +kernel⟩
abbrev s__law_core : Stmt := topS 30
theorem sc__law_core : FnScope ["_law_heap_here", "_law_length", "_law_counts", "_law_found", "_law_many", "_law_mark", "_law_rest", "_law_low"] ["_law_heap_here", "_law_length"] (defScope s__law_core) := ⟨rfl, rfl, rfl, by decide +kernel, rfl, by decide +kernel, by decide +kernel⟩
abbrev s__law_whole : Stmt := topS 31
theorem sc__law_whole : FnScope ["_law_number"] ["_law_number"] (defScope s__law_whole) := ⟨rfl, rfl, rfl, by decide +kernel, rfl, by decide +kernel, by decide +kernel⟩
abbrev s__law_is_heap : Stmt := topS 32
theorem sc__law_is_heap : FnScope ["_law_found", "_law_number"] ["_law_found"] (defScope s__law_is_heap) := ⟨rfl, rfl, rfl, by decide +kernel, rfl, by decide +kernel, by decide +kernel⟩
abbrev s__law_parts : Stmt := topS 33
theorem sc__law_parts : FnScope ["_law_heap_here", "_law_length", "_law_rows", "_law_found", "_law_mark", "_law_rest", "_law_some"] ["_law_heap_here", "_law_length"] (defScope s__law_parts) := ⟨rfl, rfl, rfl, by decide +kernel, rfl, by decide +kernel, by decide +kernel⟩
abbrev s__law_heap_right : Stmt := topS 34
theorem sc__law_heap_right : FnScope ["_law_heap_here", "_law_length", "_law_kept", "_law_due", "_law_again", "_law_found", "_law_left", "_law_handed", "_law_back", "_law_part"] ["_law_heap_here", "_law_length"] (defScope s__law_heap_right) := ⟨rfl, rfl, rfl, by decide +kernel, rfl, by decide +kernel, by decide +kernel⟩
abbrev s__law_joined_right : Stmt := topS 35
theorem sc__law_joined_right : FnScope ["_law_left", "_law_some", "_law_length", "_law_kept", "_law_found", "_law_part"] ["_law_left", "_law_some", "_law_length"] (defScope s__law_joined_right) := ⟨rfl, rfl, rfl, by decide +kernel, rfl, by decide +kernel, by decide +kernel⟩
abbrev s_law : Stmt := topS 36
theorem sc_law : FnScope ["_law_script", "_law_few", "_law_heap_here", "_law_length", "_law_left", "_law_some", "_law_rest", "_law_part", "_law_wide", "_law_k"] ["_law_script"] (defScope s_law) := ⟨rfl, rfl, rfl, by decide +kernel, rfl, by decide +kernel, by decide +kernel⟩
end Rh

local macro_rules | `(tactic| walk_at "ev") => `(tactic| first
  | exact Evl.ev_c
  | exact Evl.ev_var rfl
  | (refine Rh.ev_add ?_ ?_ <;> walk_at "ev")
  | (refine Rh.ev_sub ?_ ?_ <;> walk_at "ev")
  | (refine Rh.ev_neg ?_ <;> walk_at "ev")
  | (refine Rh.ev_lt ?_ ?_ <;> walk_at "ev")
  | (refine Rh.ev_le ?_ ?_ <;> walk_at "ev")
  | (refine Rh.ev_gt ?_ ?_ <;> walk_at "ev")
  | (refine Rh.ev_ge ?_ ?_ <;> walk_at "ev")
  | (refine Rh.ev_eqI ?_ ?_ <;> walk_at "ev")
  | (refine Rh.ev_neI ?_ ?_ <;> walk_at "ev")
  | (refine Rh.ev_lenL ?_ (by assumption) <;> walk_at "ev"))

namespace Rh
open PySem PySem.Spec PyProof.Rows L2 Evl
section
variable {P : Program} {w : World} {K : PySem.W.Frag} {mg : Str → Option Value} {base : Heap}
theorem ok__law_draw {f : Addr} {fd : FuncData} (F : Fun K "_law_draw" "_law_draw" s__law_draw f fd) (g : mg "_law_draw" = some (.ref f)) (B : Bl mg) :
    Dfn P w K mg base CX0 1 "_law_draw" f fd ["_law_cell", "_law_k", "_law_many"] sp_l_draw := by
  refine ⟨F.ok sc__law_draw (fun vs H Q E h => ?_) (fun cdv A outer s H vs Q E hr h => ?_), F.kp, F.binds (ps := ["_law_cell", "_law_k", "_law_many"]) fun _ _ _ _ _ _ us hl => match us, hl with | [_, _, _], _ => rfl, g⟩
  · obtain ⟨i, j, l, rfl, hp, q⟩ := h
    rfl
  · obtain ⟨i, j, l, rfl, hp, q⟩ := h
    refine ⟨_, (pss_cons (ps_set (i := 3) sc__law_draw.nd rfl (Or.inl rfl) (pe_tup (pa_cons pe_int (pa_cons pe_int (pa_cons pe_int (pa_cons pe_int (pa_cons pe_int (pa_cons pe_int (pa_cons pe_int (pa_cons pe_int (pa_cons pe_int (pa_cons pe_int (pa_cons pe_int (pa_cons pe_int (pa_cons pe_int (pa_cons pe_int (pa_cons pe_int (pa_cons pe_int pa_nil))))))))))))))))))
      (pss_one (ps_ret (pe_op op_mod (pe_op op_mod (pe_op op_add (pe_op Rh.op_mulO (pv 0) pe_int) (pe_op Rh.op_mulO (pv 1) pe_int)) (pe_ix (Rh.k_ixt K rfl) (pv 3) (pe_op op_mod (pv 1) pe_int) (fun _ _ => rfl))) (pv 2))))), ?_⟩
    show (_ : TS) _ [some (.int i), some (.int j), some (.int l), none] H
    have hl : 0 < l := hp
    refine q_asgU (xs := primes.map V.int) (eu_tup (by repeat first | exact ea_nil | refine ea_cons ev_c ?_) (by decide)) fun p H1 hn e1 h1 => ?_
    exact s_ret (ev_mod (ev_mod (ev_add (ev_mulW (ev_var rfl) ev_c (mul_smallR (by decide))) (ev_mulW (ev_var rfl) ev_c (mul_smallR (by decide)))) (ev_ixt (ev_var rfl) (st_of h1) (ev_mod (ev_var rfl) ev_c (by decide)) (prime_atI j)) (prime_pos j)) (ev_var rfl) hl) fun H2 e2 => RetV.go q (e1.trans e2)
theorem ok__law_cell_at {f : Addr} {fd : FuncData} (F : Fun K "_law_cell_at" "_law_cell_at" s__law_cell_at f fd) (g : mg "_law_cell_at" = some (.ref f)) (B : Bl mg) :
    Dfn P w K mg base CX0 1 "_law_cell_at" f fd ["_law_script", "_law_k"] (sp_l_cell_at K) := by
  refine ⟨F.ok sc__law_cell_at (fun vs H Q E h => ?_) (fun cdv A outer s H vs Q E hr h => ?_), F.kp, F.binds (ps := ["_law_script", "_law_k"]) fun _ _ _ _ _ _ us hl => match us, hl with | [_, _], _ => rfl, g⟩
  · obtain ⟨a, ns, i, rfl, hS, hp, q⟩ := h
    rfl
  · obtain ⟨a, ns, i, rfl, hS, hp, q⟩ := h
    refine ⟨_, (pss_cons (ps_if (pt_cmpR op_lt (pv 1) (pe_callB (Rh.k_len K rfl) (by rfl) B.len PySem.boot_len (pa_cons (pv 0) pa_nil)) (nomark _))
        (pss_one (ps_ret (pe_ix (Rh.k_ixl K rfl) (pv 0) (pv 1) (fun _ _ => rfl)))) pss_nil)
      (pss_one (ps_ret pe_int))), ?_⟩
    show (_ : TS) _ [some (.ref a), some (.int i)] H
    obtain ⟨h0, hl⟩ := hp
    have h0 : 0 ≤ i := h0
    refine q_when (et_test (ev_lt (ev_var rfl) (ev_lenL (ev_var rfl) hS))) (fun hb H1 e1 => ?_) (fun hb H1 e1 => ?_)
    · have hb := of_decide_eq_true hb
      have hc : ns[i.toNat]? = some (cellAt ns i) := by
        unfold cellAt
        rw [List.getD_eq_getElem?_getD, List.getElem?_eq_getElem (by omega)]
        rfl
      exact s_ret (ev_ix (k := i.toNat) (ev_var rfl) (ev_is (ev_var rfl) (by congr 1; omega)) (ex_l e1 hS) hc) fun H2 e2 => RetV.go q (e1.trans e2)
    · have hb := of_decide_eq_false hb
      have hc : cellAt ns i = 0 := by
        unfold cellAt
        rw [List.getD_eq_getElem?_getD, List.getElem?_eq_none (by omega)]
        rfl
      exact s_ret (v := .int (cellAt ns i)) (ev_is ev_c (by rw [hc])) fun H2 e2 => RetV.go q (e1.trans e2)
theorem ok__law_value {f : Addr} {fd : FuncData} (F : Fun K "_law_value" "_law_value" s__law_value f fd) (g : mg "_law_value" = some (.ref f)) (B : Bl mg)
    {f__law_draw : Addr} {fd__law_draw : FuncData} (D__law_draw : Dfn P w K mg base CX0 1 "_law_draw" f__law_draw fd__law_draw ["_law_cell", "_law_k", "_law_many"] sp_l_draw) :
    Dfn P w K mg base CX0 2 "_law_value" f fd ["_law_cell", "_law_k", "_law_most"] sp_l_value := by
  refine ⟨F.ok sc__law_value (fun vs H Q E h => ?_) (fun cdv A outer s H vs Q E hr h => ?_), F.kp, F.binds (ps := ["_law_cell", "_law_k", "_law_most"]) fun _ _ _ _ _ _ us hl => match us, hl with | [_, _, _], _ => rfl, g⟩
  · obtain ⟨i, j, l, rfl, hp, q⟩ := h
    rfl
  · obtain ⟨i, j, l, rfl, hp, q⟩ := h
    refine ⟨_, (pss_cons (ps_if (pt_cmpR op_ge (pv 0) (pe_op op_pow pe_int pe_int) (nomark _))
        (pss_one (ps_ret (pe_op op_mod (pe_op op_sub (pv 0) (pe_op op_pow pe_int pe_int)) (pe_op op_pow pe_int pe_int)))) pss_nil)
      (pss_one (ps_ret (Rh.pe_dfn D__law_draw hr (by decide) (by rfl) pass0 (pa_cons (pe_op Rh.op_mulO (pe_op op_add (pv 0) (pe_op Rh.op_mulO pe_int (pv 1))) (pe_op op_add (pe_op op_add (pv 0) (pe_op Rh.op_mulO pe_int (pv 1))) pe_int)) (pa_cons (pe_op op_add (pe_op op_mod (pv 1) pe_int) pe_int) (pa_cons (pv 2) pa_nil))))))), ?_⟩
    show (_ : TS) _ [some (.int i), some (.int j), some (.int l)] H
    obtain ⟨hb, hj, hl⟩ := hp
    have hb : Builtin.Int.intBits i ≤ 1048576 := hb
    have hj : 0 ≤ j ∧ j ≤ 1000 := hj
    refine q_when (et_test (ev_ge (ev_var rfl) (ev_is (ev_pow ev_c ev_c ⟨by decide, by decide, by decide⟩) (congrArg V.int (show _ = t18 by decide))))) (fun hc H1 e1 => ?_) (fun hc H1 e1 => ?_)
    · have hc := of_decide_eq_true hc
      have e : value i j l = (i - t18) % t60 := by unfold value; rw [if_pos hc]
      rw [e] at q
      exact s_ret (ev_mod (ev_sub (ev_var rfl) (ev_is (ev_pow ev_c ev_c ⟨by decide, by decide, by decide⟩) (congrArg V.int (show _ = t18 by decide)))) (ev_is (ev_pow ev_c ev_c ⟨by decide, by decide, by decide⟩) (congrArg V.int (show _ = t60 by decide))) (by decide)) fun H2 e2 => RetV.go q (e1.trans e2)
    · have hc := of_decide_eq_false hc
      have e : value i j l = draw ((i + 977 * j) * (i + 31 * j + 5)) (j % 9 + 1) l := by unfold value; rw [if_neg hc]
      rw [e] at q
      have b1 : Builtin.Int.intBits (i + 977 * j) ≤ 1048577 := bits_add hb (bits_mono (bits_small ⟨by omega, by omega⟩) (by decide))
      have b2 : Builtin.Int.intBits (i + 31 * j + 5) ≤ 1048578 := bits_add (bits_add hb (bits_mono (bits_small ⟨by omega, by omega⟩) (by decide))) (bits_mono (bits_small ⟨by decide, by decide⟩) (by decide))
      exact s_ret (ev_call (ea_three (ev_mulW (ev_add (ev_var rfl) (ev_mulW ev_c (ev_var rfl) (mul_small (by decide)))) (ev_add (ev_add (ev_var rfl) (ev_mulW ev_c (ev_var rfl) (mul_small (by decide)))) ev_c) (mul_bits b1 b2 (by decide))) (ev_add (ev_mod (ev_var rfl) ev_c (by decide)) ev_c) (ev_var rfl)) (go_iii hl rfl)) fun H2 e2 => RetV.go q (e1.trans e2)
theorem ok__law_heap {f : Addr} {fd : FuncData} (F : Fun K "_law_heap" "_law_heap" s__law_heap f fd) (g : mg "_law_heap" = some (.ref f)) (B : Bl mg)
    {f__law_draw : Addr} {fd__law_draw : FuncData} (D__law_draw : Dfn P w K mg base CX0 1 "_law_draw" f__law_draw fd__law_draw ["_law_cell", "_law_k", "_law_many"] sp_l_draw)
    {f__law_cell_at : Addr} {fd__law_cell_at : FuncData} (D__law_cell_at : Dfn P w K mg base CX0 1 "_law_cell_at" f__law_cell_at fd__law_cell_at ["_law_script", "_law_k"] (sp_l_cell_at K))
    {f__law_value : Addr} {fd__law_value : FuncData} (D__law_value : Dfn P w K mg base CX0 2 "_law_value" f__law_value fd__law_value ["_law_cell", "_law_k", "_law_most"] sp_l_value) :
    Dfn P w K mg base CX0 3 "_law_heap" f fd ["_law_script", "_law_by"] (sp_l_heap K) := by
  refine ⟨F.ok sc__law_heap (fun vs H Q E h => ?_) (fun cdv A outer s H vs Q E hr h => ?_), F.kp, F.binds (ps := ["_law_script", "_law_by"]) fun _ _ _ _ _ _ us hl => match us, hl with | [_, _], _ => rfl, g⟩
  · obtain ⟨a, ns, i, rfl, hS, hp, q⟩ := h
    rfl
  · obtain ⟨a, ns, i, rfl, hS, hp, q⟩ := h
    refine ⟨_, (pss_cons (ps_set (i := 0) sc__law_heap.nd rfl (Or.inl rfl) (pe_slice (Rh.k_sll K rfl) (pv 0) po_none (po_some pe_int)))
      (pss_cons (ps_set (i := 2) sc__law_heap.nd rfl (Or.inl rfl) (Rh.pe_dfn D__law_draw hr (by decide) (by rfl) pass0 (pa_cons (pe_op op_add (Rh.pe_dfn D__law_cell_at hr (by decide) (by rfl) pass0 (pa_cons (pv 0) (pa_cons pe_int pa_nil))) (pv 1)) (pa_cons pe_int (pa_cons pe_int pa_nil)))))
      (pss_cons (ps_set (i := 3) sc__law_heap.nd rfl (Or.inr rfl) (pe_ix (Rh.k_ixt K rfl) (pe_tup (pa_cons pe_int (pa_cons pe_int (pa_cons pe_int (pa_cons pe_int pa_nil))))) (Rh.pe_dfn D__law_draw hr (by decide) (by rfl) pass0 (pa_cons (pe_op op_add (Rh.pe_dfn D__law_cell_at hr (by decide) (by rfl) pass0 (pa_cons (pv 0) (pa_cons pe_int pa_nil))) (pv 1)) (pa_cons pe_int (pa_cons pe_int pa_nil)))) (fun _ _ => rfl)))
      (pss_cons (ps_setLc (i := 6) (own := [("_law_k", 4), ("_law_cell", 5)]) (g := (Rh.g2 K 4 5)) (tt := tYes)  rfl sc__law_heap.nd rfl rfl (sw_true rfl rfl rfl (by decide +kernel)) (pi_enum (by rfl) B.enumerate (pa_cons (pv 0) pa_nil)) (blkOk_by (N := ["_law_script", "_law_by", "_law_kind", "_law_most", "_law_k", "_law_cell", "_law_rows", "_law_total"]) (sc := defScope s__law_heap) (by decide +kernel)) (fun _ _ _ _ _ => (pg_tup rfl (pgs_cons (pg_name (i := 4) sc__law_heap.nd rfl (Or.inl rfl)) (pgs_cons (pg_name (i := 5) sc__law_heap.nd rfl (Or.inl rfl)) pgs_nil)))) (fun _ _ _ _ _ => pts_nil) (fun _ _ _ _ _ => (pe_op op_add pe_int (Rh.pe_dfn D__law_value hr (by decide) (by rfl) pass0 (pa_cons (pv 5) (pa_cons (pe_op op_add (pv 4) (pv 1)) (pa_cons (pv 3) pa_nil)))))))
      (pss_cut (ps_if (pt_cmpR op_eq (pv 2) pe_int (nomark _))
        (pss_cons (ps_par (i := 7) (j := 6) rfl sc__law_heap.nd rfl rfl (by decide) rfl rfl (pa_cons pe_int (pa_cons (pe_lst pa_nil) pa_nil)) (by rfl))
      (pss_one (ps_for PassesOwn.never rfl (pi_enum (by rfl) B.enumerate (pa_cons (pv 0) pa_nil)) (pg_tup rfl (pgs_cons (pg_name (i := 4) sc__law_heap.nd rfl (Or.inl rfl)) (pgs_cons (pg_name (i := 5) sc__law_heap.nd rfl (Or.inl rfl)) pgs_nil)))
        (pss_cons (ps_set (i := 7) sc__law_heap.nd rfl (Or.inl rfl) (pe_op op_add (pv 7) (Rh.pe_dfn D__law_value hr (by decide) (by rfl) pass0 (pa_cons (pv 5) (pa_cons (pe_op op_add (pv 4) (pv 1)) (pa_cons pe_int pa_nil))))))
      (pss_one (ps_expr (pe_bm PySem.F.plainAttrs_list PySem.F.slot_list_append PySem.F.type_list_append mt_append (pv 6) (pa_cons (pv 7) pa_nil)))))))) pss_nil)
      (pss_cut (ps_if (pt_cmpR op_eq (pv 2) pe_int (nomark _))
        (pss_one (ps_set (i := 6) sc__law_heap.nd rfl (Or.inl rfl) (pe_op op_rep (pe_slice (Rh.k_sll K rfl) (pv 6) po_none (po_some pe_int)) pe_int))) pss_nil)
      (pss_one (ps_ret (pe_callBK (Rh.k_sorted (b := true) K rfl) (by rfl) B.sorted boot_sorted (pa_cons (pv 6) pa_nil) (pk_cons pe_bl pk_nil)))))))))), ?_⟩
    show (_ : TS) _ [some (.ref a), some (.int i), none, none, none, none, none, none] H
    obtain ⟨⟨hB, hl⟩, hi⟩ := hp
    have hl : ns.length ≤ 30000 := hl
    have hi : 0 ≤ i ∧ i ≤ 100 := hi
    have hB1 : Bits (ns.take 63) := fun z hz => hB z (List.mem_of_mem_take hz)
    have hl1 : (ns.take 63).length ≤ 63 := by rw [List.length_take]; omega
    have m1 := most_at (ns.take 63) i
    refine q_asgL (el_takeI (k := 63) (ev_var rfl) hS ev_c) fun p H1 hn e1 h1 => ?_
    have s1 := sq_map (K := K) h1
    have hl2 : Len (ns.take 63) := by show _ ≤ 30000; omega
    refine q_asg (ev_call (ea_three (ev_add (ev_call (ea_two (ev_var rfl) ev_c) (go_Liv s1 ⟨by decide, hl2⟩ rfl)) (ev_var rfl)) ev_c ev_c) (go_iii (show (0 : Int) < 6 by decide) rfl)) fun H2 e2 => ?_
    have s2 := ex_l e2 s1
    refine q_asg (v := .int (mostM (ns.take 63) i)) (ev_ixtN (eu_tup (vs := ([3, 9, 70, 900000] : List Int).map V.int) (ea_cons ev_c (ea_cons ev_c (ea_cons ev_c (ea_cons ev_c ea_nil)))) (by decide)) (ev_call (ea_three (ev_add (ev_call (ea_two (ev_var rfl) ev_c) (go_Liv s2 ⟨by decide, hl2⟩ rfl)) (ev_var rfl)) ev_c ev_c) (go_iii (show (0 : Int) < 4 by decide) rfl)) (most_atI _ _)) fun H3 e3 => ?_
    have s3 := ex_l e3 s2
    refine q_asgL (xs := (rows0 (ns.take 63) i).map V.int) ?_ fun p4 H4 hn4 e4 h4 => ?_
    · refine el_cEm V.int _ (ev_var rfl) s3 (by omega) (fun _ _ => rfl) fun n k hk => ?_
      have hk1 : k < (ns.take 63).length := (List.getElem?_eq_some_iff.mp hk).1
      exact ev_add ev_c (ev_call (ea_three (ev_var rfl) (ev_add (ev_var rfl) (ev_var rfl)) (ev_var rfl)) (go_iii ⟨hB1 n (List.mem_of_getElem? hk), by omega, m1.2.1⟩ rfl))
    have s4 := ex_l e4 s3
    refine q_cut (M := fun σ' H' => ∃ y4 y5 p6 y7, σ' = [some (.ref p), some (.int i), some (.int (kindM (ns.take 63) i)), some (.int (mostM (ns.take 63) i)), y4, y5, some (.ref p6), y7] ∧ Ex H H' ∧ H' p6 = some (.lst ((rows1 (ns.take 63) i).map V.int))) ?_ ?_
    · refine s_when (et_test (ev_eqI (ev_var rfl) ev_c)) (fun hb H5 e5 => ?_) (fun hb H5 e5 => ?_)
      · have hb : kindM (ns.take 63) i = 0 := of_decide_eq_true hb
        have er : rows1 (ns.take 63) i = psums i (ns.take 63) := by unfold rows1; rw [if_pos hb]
        rw [er]
        have e05 := (((e1.trans e2).trans e3).trans e4).trans e5
        refine q_parXL ev_c el_nil fun p6 H6 hn6 e6 h6 => ?_
        have hp6 : H p6 = none := fresh_back e05 hn6
        have s6 := ex_l (e5.trans e6) s4
        refine s_forE (ev_var rfl) s6 (fun pre σ' H' => ∃ y4 y5, σ' = [some (.ref p), some (.int i), some (.int (kindM (ns.take 63) i)), some (.int (mostM (ns.take 63) i)), y4, y5, some (.ref p6), some (.int (tot i pre))] ∧ Ex H5 H' ∧ H' p6 = some (.lst ((psums i pre).map V.int))) (fun H7 e7 => ⟨none, none, rfl, e6.trans e7, e7 _ _ h6⟩) (fun pre σ' H' w => ?_) (fun pre n post A σ' H' hn w hA => ?_) fun σ' H' w => ?_
        · obtain ⟨_, _, _, e, _⟩ := w
          exact ex_l (e5.trans e) s4
        · obtain ⟨y4, y5, rfl, e, hk⟩ := w
          have hpl : pre.length < (ns.take 63).length := by rw [hn]; simp
          have hmem : n ∈ ns.take 63 := by rw [hn]; simp
          refine q_asg (ev_add (ev_var rfl) (ev_call (ea_three (ev_var rfl) (ev_add (ev_var rfl) (ev_var rfl)) ev_c) (go_iii ⟨hB1 n hmem, by omega, by decide⟩ rfl))) fun H8 e8 => ?_
          refine s_appI (e8 _ _ (Ex.new hA _ _ hk)) (ev_var rfl) (ev_var rfl) (by rw [show (psums i pre).length = pre.length by simp [psums]]; omega) fun H9 e9 => ?_
          rw [psums_snoc, tot_snoc]
          exact ⟨_, _, rfl, (((e.trans (Ex.new hA)).trans e8).trans e9).mut hn6, upd_same⟩
        · obtain ⟨y4, y5, rfl, e, hk⟩ := w
          exact ⟨_, _, _, _, rfl, e05.trans e, hk⟩
      · have hb : ¬ kindM (ns.take 63) i = 0 := of_decide_eq_false hb
        have er : rows1 (ns.take 63) i = rows0 (ns.take 63) i := by unfold rows1; rw [if_neg hb]
        rw [er]
        exact ⟨_, _, _, _, rfl, (((e1.trans e2).trans e3).trans e4).trans e5, e5 _ _ h4⟩
    · rintro σ' H5 ⟨y4, y5, p6, y7, rfl, e5, h5⟩
      have hl3 := rows1_ok (ns.take 63) i hl1
      refine q_cut (M := fun σ' H' => ∃ p6, σ' = [some (.ref p), some (.int i), some (.int (kindM (ns.take 63) i)), some (.int (mostM (ns.take 63) i)), y4, y5, some (.ref p6), y7] ∧ Ex H H' ∧ H' p6 = some (.lst ((rows2 (ns.take 63) i).map V.int))) ?_ ?_
      · refine s_when (et_test (ev_eqI (ev_var rfl) ev_c)) (fun hb H6 e6 => ?_) (fun hb H6 e6 => ?_)
        · have hb : kindM (ns.take 63) i = 1 := of_decide_eq_true hb
          have er : rows2 (ns.take 63) i = (rows1 (ns.take 63) i).take 40 ++ (rows1 (ns.take 63) i).take 40 := by unfold rows2; rw [if_pos hb]
          rw [er]
          refine s_asgL (el_as (el_repN (k := 2) (el_takeI (k := 40) (ev_var rfl) (ex_l e6 (sq_map h5)) ev_c) ev_c (by decide) rfl (by rw [List.length_map, List.length_take]; omega)) ?_) fun p7 H7 hn7 e7 h7 => ⟨p7, rfl, (e5.trans e6).trans e7, h7⟩
          rw [List.map_append]
          simp [List.replicate]
        · have hb : ¬ kindM (ns.take 63) i = 1 := of_decide_eq_false hb
          have er : rows2 (ns.take 63) i = rows1 (ns.take 63) i := by unfold rows2; rw [if_neg hb]
          rw [er]
          exact ⟨p6, rfl, e5.trans e6, e6 _ _ h5⟩
      · rintro σ' H6 ⟨p6, rfl, e6, h6⟩
        exact s_retL (el_sortedR (ev_var rfl) (sq_map h6)) fun p7 H7 hn7 e7 h7 => RetL.go q e6 hn7 e7 h7
theorem ok__law_small {f : Addr} {fd : FuncData} (F : Fun K "_law_small" "_law_small" s__law_small f fd) (g : mg "_law_small" = some (.ref f)) (B : Bl mg)
    {f__law_value : Addr} {fd__law_value : FuncData} (D__law_value : Dfn P w K mg base CX0 2 "_law_value" f__law_value fd__law_value ["_law_cell", "_law_k", "_law_most"] sp_l_value) :
    Dfn P w K mg base CX0 3 "_law_small" f fd ["_law_script", "_law_by"] (sp_l_small K) := by
  refine ⟨F.ok sc__law_small (fun vs H Q E h => ?_) (fun cdv A outer s H vs Q E hr h => ?_), F.kp, F.binds (ps := ["_law_script", "_law_by"]) fun _ _ _ _ _ _ us hl => match us, hl with | [_, _], _ => rfl, g⟩
  · obtain ⟨a, ns, i, rfl, hS, hp, q⟩ := h
    rfl
  · obtain ⟨a, ns, i, rfl, hS, hp, q⟩ := h
    refine ⟨_, (pss_cons (ps_setLc (i := 2) (own := [("_law_k", 3), ("_law_cell", 4)]) (g := (Rh.g2 K 3 4)) (tt := tYes)  rfl sc__law_small.nd rfl rfl (sw_true rfl rfl rfl (by decide +kernel)) (pi_enum (by rfl) B.enumerate (pa_cons (pe_slice (Rh.k_sll K rfl) (pv 0) po_none (po_some pe_int)) pa_nil)) (blkOk_by (N := ["_law_script", "_law_by", "_law_rows", "_law_k", "_law_cell"]) (sc := defScope s__law_small) (by decide +kernel)) (fun _ _ _ _ _ => (pg_tup rfl (pgs_cons (pg_name (i := 3) sc__law_small.nd rfl (Or.inl rfl)) (pgs_cons (pg_name (i := 4) sc__law_small.nd rfl (Or.inl rfl)) pgs_nil)))) (fun _ _ _ _ _ => pts_nil) (fun _ _ _ _ _ => (pe_op op_add pe_int (pe_op op_mod (Rh.pe_dfn D__law_value hr (by decide) (by rfl) pass0 (pa_cons (pv 4) (pa_cons (pe_op op_add (pv 3) (pv 1)) (pa_cons pe_int pa_nil)))) pe_int))))
      (pss_one (ps_ret (pe_callBK (Rh.k_sorted (b := true) K rfl) (by rfl) B.sorted boot_sorted (pa_cons (pv 2) pa_nil) (pk_cons pe_bl pk_nil))))), ?_⟩
    show (_ : TS) _ [some (.ref a), some (.int i), none, none, none] H
    obtain ⟨⟨hB, hl⟩, hi⟩ := hp
    have hl : ns.length ≤ 30000 := hl
    have hi : 0 ≤ i ∧ i ≤ 100 := hi
    have hB1 : Bits (ns.take 12) := fun z hz => hB z (List.mem_of_mem_take hz)
    have hl1 : (ns.take 12).length ≤ 12 := by rw [List.length_take]; omega
    refine q_asgL (xs := ((ns.take 12).zipIdx.map fun p => 1 + value p.1 ((p.2 : Nat) + i) 16 % 16).map V.int) ?_ fun p1 H1 hn1 e1 h1 => ?_
    · refine asIterE (el_takeI (k := 12) (ev_var rfl) hS ev_c) fun p H0 e0 h0 => ?_
      refine el_cEm V.int _ ev_c (sq_map h0) (by omega) (fun _ _ => rfl) fun n k hk => ?_
      have hk1 : k < (ns.take 12).length := (List.getElem?_eq_some_iff.mp hk).1
      exact ev_add ev_c (ev_mod (ev_call (ea_three (ev_var rfl) (ev_add (ev_var rfl) (ev_var rfl)) ev_c) (go_iii ⟨hB1 n (List.mem_of_getElem? hk), by omega, by decide⟩ rfl)) ev_c (by decide))
    · exact s_retL (el_sortedR (ev_var rfl) (sq_map h1)) fun p7 H7 hn7 e7 h7 => RetL.go q e1 hn7 e7 h7
theorem ok__law_marks {f : Addr} {fd : FuncData} (F : Fun K "_law_marks" "_law_marks" s__law_marks f fd) (g : mg "_law_marks" = some (.ref f)) (B : Bl mg) :
    Dfn P w K mg base CX0 1 "_law_marks" f fd ["_law_heap_here"] (sp_marks_of K) := by
  refine ⟨F.ok sc__law_marks (fun vs H Q E h => ?_) (fun cdv A outer s H vs Q E hr h => ?_), F.kp, F.binds (ps := ["_law_heap_here"]) fun _ _ _ _ _ _ us hl => match us, hl with | [_], _ => rfl, g⟩
  · obtain ⟨a, ns, rfl, hS, hp, q⟩ := h
    rfl
  · obtain ⟨a, ns, rfl, hS, hp, q⟩ := h
    refine ⟨_, (pss_one (ps_ret (pe_lc (own := [("_law_at", 1), ("_law_number", 2)]) (g := (Rh.g2 K 1 2)) (tt := tYes)  (by rfl) sc__law_marks.nd (pi_enum (by rfl) B.enumerate (pa_cons (pv 0) pa_nil)) (blkOk_by (N := ["_law_heap_here", "_law_at", "_law_number"]) (sc := defScope s__law_marks) (by decide +kernel)) (fun _ _ _ _ _ => (pg_tup rfl (pgs_cons (pg_name (i := 1) sc__law_marks.nd rfl (Or.inl rfl)) (pgs_cons (pg_name (i := 2) sc__law_marks.nd rfl (Or.inl rfl)) pgs_nil)))) (fun _ _ _ _ _ => pts_nil) (fun _ _ _ _ _ => (pe_op op_sub (pe_op op_sub (pe_op op_add (pv 2) (pe_callB (Rh.k_len K rfl) (by rfl) B.len PySem.boot_len (pa_cons (pv 0) pa_nil))) pe_int) (pv 1)))))), ?_⟩
    show (_ : TS) _ [some (.ref a), none, none] H
    refine s_retL (xs := (marksOf ns).map V.int) ?_ fun p H1 hn e h1 => q p H1 hn e h1
    rw [← marks_comp]
    refine el_cEm V.int _ (ev_var rfl) hS (by have : Len ns := hp; omega) (fun _ _ => rfl) fun n k hk => ?_
    walk_at "ev"
theorem ok__law_of {f : Addr} {fd : FuncData} (F : Fun K "_law_of" "_law_of" s__law_of f fd) (g : mg "_law_of" = some (.ref f)) (B : Bl mg) :
    Dfn P w K mg base CX0 1 "_law_of" f fd ["_law_marks_here"] (sp_heap_of K) := by
  refine ⟨F.ok sc__law_of (fun vs H Q E h => ?_) (fun cdv A outer s H vs Q E hr h => ?_), F.kp, F.binds (ps := ["_law_marks_here"]) fun _ _ _ _ _ _ us hl => match us, hl with | [_], _ => rfl, g⟩
  · obtain ⟨a, ns, rfl, hS, hp, q⟩ := h
    rfl
  · obtain ⟨a, ns, rfl, hS, hp, q⟩ := h
    refine ⟨_, (pss_cons (ps_set (i := 1) sc__law_of.nd rfl (Or.inr rfl) (pe_callBK (Rh.k_sorted (b := true) K rfl) (by rfl) B.sorted boot_sorted (pa_cons (pv 0) pa_nil) (pk_cons pe_bl pk_nil)))
      (pss_cons (ps_setLc (i := 2) (own := [("_law_at", 3), ("_law_mark", 4)]) (g := (Rh.g2 K 3 4)) (tt := tYes)  rfl sc__law_of.nd rfl rfl (sw_true rfl rfl rfl (by decide +kernel)) (pi_enum (by rfl) B.enumerate (pa_cons (pv 1) pa_nil)) (blkOk_by (N := ["_law_marks_here", "_law_falling", "_law_rows", "_law_at", "_law_mark", "_law_number"]) (sc := defScope s__law_of) (by decide +kernel)) (fun _ _ _ _ _ => (pg_tup rfl (pgs_cons (pg_name (i := 3) sc__law_of.nd rfl (Or.inl rfl)) (pgs_cons (pg_name (i := 4) sc__law_of.nd rfl (Or.inl rfl)) pgs_nil)))) (fun _ _ _ _ _ => pts_nil) (fun _ _ _ _ _ => (pe_op op_add (pe_op op_add (pe_op op_sub (pv 4) (pe_callB (Rh.k_len K rfl) (by rfl) B.len PySem.boot_len (pa_cons (pv 1) pa_nil))) pe_int) (pv 3))))
      (pss_one (ps_ret (pe_lc (own := [("_law_number", 5)]) (g := (gName 5))  (by rfl) sc__law_of.nd (pi_list (pv 2)) (blkOk_by (N := ["_law_marks_here", "_law_falling", "_law_rows", "_law_at", "_law_mark", "_law_number"]) (sc := defScope s__law_of) (by decide +kernel)) (fun _ _ _ _ _ => (pg_name (i := 5) sc__law_of.nd rfl (Or.inl rfl))) (fun _ _ _ _ _ => (pts_one (pt_cmpR op_gt (pv 5) pe_int (nomark _)))) (fun _ _ _ _ _ => (pv 5))))))), ?_⟩
    show (_ : TS) _ [some (.ref a), none, none, none, none, none] H
    have hl : Len ns := hp
    have hz : (sortD ns).length = ns.length := (sortD_perm ns).length_eq
    refine q_asgL (el_sortedR (ev_var rfl) hS) fun p H1 hn e1 h1 => ?_
    have s1 := sq_map (K := K) h1
    refine q_asgL (xs := (rowsOf (sortD ns)).map V.int) ?_ fun p2 H2 hn2 e2 h2 => ?_
    · rw [← rows_comp]
      refine el_cEm V.int _ (ev_var rfl) s1 (by omega) (fun _ _ => rfl) fun n k hk => ?_
      walk_at "ev"
    have s2 := sq_map (K := K) h2
    refine s_retL (xs := (heapOf ns).map V.int) ?_ fun p3 H3 hn3 e3 h3 => RetL.go q (e1.trans e2) hn3 e3 h3
    unfold heapOf
    rw [← pos_comp]
    refine el_cL V.int _ (ev_var rfl) s2 (by rw [rowsOf_len]; omega) (fun _ => rfl) (fun n hn => et_is (et_test (ev_gt (ev_var rfl) ev_c)) ?_) fun n hn y hy => ?_
    · by_cases c : 0 < n
      · rw [if_pos c, decide_eq_true c]; rfl
      · rw [if_neg c, decide_eq_false c]; rfl
    · split at hy
      · cases hy
        exact ev_var rfl
      · cases hy
theorem ok__law_parts {f : Addr} {fd : FuncData} (F : Fun K "_law_parts" "_law_parts" s__law_parts f fd) (g : mg "_law_parts" = some (.ref f)) (B : Bl mg)
    {f__law_marks : Addr} {fd__law_marks : FuncData} (D__law_marks : Dfn P w K mg base CX0 1 "_law_marks" f__law_marks fd__law_marks ["_law_heap_here"] (sp_marks_of K))
    {f__law_of : Addr} {fd__law_of : FuncData} (D__law_of : Dfn P w K mg base CX0 1 "_law_of" f__law_of fd__law_of ["_law_marks_here"] (sp_heap_of K)) :
    Dfn P w K mg base CX0 2 "_law_parts" f fd ["_law_heap_here", "_law_length"] sp_parts := by
  refine ⟨F.ok sc__law_parts (fun vs H Q E h => ?_) (fun cdv A outer s H vs Q E hr h => ?_), F.kp, F.binds (ps := ["_law_heap_here", "_law_length"]) fun _ _ _ _ _ _ us hl => match us, hl with | [_, _], _ => rfl, g⟩
  · obtain ⟨a, ns, i, rfl, hA, hp, q⟩ := h
    rfl
  · obtain ⟨a, ns, i, rfl, hA, hp, q⟩ := h
    refine ⟨_, (pss_cons (ps_set (i := 2) sc__law_parts.nd rfl (Or.inl rfl) (pe_op op_cat (pv 0) (pe_op op_rep (pe_lst (pa_cons pe_int pa_nil)) (pe_op op_mod (pe_un un_neg (pe_callB (Rh.k_len K rfl) (by rfl) B.len PySem.boot_len (pa_cons (pv 0) pa_nil))) (pv 1)))))
      (pss_cons (ps_setLc (i := 3) (own := [("_law_rest", 5)]) (g := (gName 5)) (tt := tYes)  rfl sc__law_parts.nd rfl rfl (sw_true rfl rfl rfl (by decide +kernel)) (pi_range1 (by rfl) B.range (pa_cons (pv 1) pa_nil)) (blkOk_by (N := ["_law_heap_here", "_law_length", "_law_rows", "_law_found", "_law_mark", "_law_rest", "_law_some"]) (sc := defScope s__law_parts) (by decide +kernel)) (fun _ _ _ _ _ => (pg_name (i := 5) sc__law_parts.nd rfl (Or.inl rfl))) (fun _ _ _ _ _ => pts_nil) (fun _ _ _ _ _ => (pe_lst pa_nil)))
      (pss_cons (ps_for PassesOwn.never rfl (pi_list (Rh.pe_dfn D__law_marks hr (by decide) (by rfl) pass0 (pa_cons (pv 2) pa_nil))) (pg_name (i := 4) sc__law_parts.nd rfl (Or.inl rfl))
        (pss_one (ps_expr (pe_bm PySem.F.plainAttrs_list PySem.F.slot_list_append PySem.F.type_list_append mt_append (pe_ix (Rh.k_ixl K rfl) (pv 3) (pe_op op_mod (pv 4) (pv 1)) (fun _ _ => rfl)) (pa_cons (pe_op op_fdivW (pv 4) (pv 1)) pa_nil)))))
      (pss_one (ps_ret (pe_lc (own := [("_law_some", 6)]) (g := (gName 6)) (tt := tYes)  (by rfl) sc__law_parts.nd (pi_list (pv 3)) (blkOk_by (N := ["_law_heap_here", "_law_length", "_law_rows", "_law_found", "_law_mark", "_law_rest", "_law_some"]) (sc := defScope s__law_parts) (by decide +kernel)) (fun _ _ _ _ _ => (pg_name (i := 6) sc__law_parts.nd rfl (Or.inl rfl))) (fun _ _ _ _ _ => pts_nil) (fun _ _ _ _ _ => (Rh.pe_dfn D__law_of hr (by decide) (by rfl) pass0 (pa_cons (pv 6) pa_nil))))))))), ?_⟩
    show (_ : TS) _ [some (.ref a), some (.int i), none, none, none, none, none] H
    obtain ⟨hh, hl, hL1, hL2⟩ := hp
    have hL : 0 < i := by omega
    have hlog := small_log (show 0 ≤ i by omega) (show i < 1000000 by omega)
    have hpn := padN_lt (h := ns) hL
    have hps := padM_size ns (L := i)
    have hrn := rest_ok hL (-(ns.length : Int))
    have hcl : ∀ pre : List Int, pre.length ≤ 25100 → ∀ n, (cl pre i (n % i)).length < 100000 := fun pre h n => by
      have := cnt_le pre i (n % i)
      rw [cl_len]
      omega
    refine q_asgL (el_pad (k := padN ns i) (ev_var rfl) hA (by omega) (ev_mod (ev_neg (ev_lenL (ev_var rfl) (sq_map hA))) (ev_var rfl) hL) (by omega) rfl) fun p H3 hp3 e03 h3 => ?_
    refine q_asgLLs (ell_cR (fun _ => []) (ea_one (ev_var rfl)) (by omega) (fun _ => rfl) fun k hk => el_nil) fun pf bs H4 n => ?_
    obtain ⟨n1, n2, n3, n4, n5, n6, n7⟩ := n
    refine q_forN (ns := padM ns i) (el_call (ea_one (ev_var rfl)) (go_L (sq_map (n5 _ _ h3)) (by show (ns ++ zeros (padN ns i)).length ≤ 30000; rw [List.length_append]; unfold zeros; rw [List.length_replicate]; omega) rfl)) (fun pm pre σ' H' => ∃ y4, σ' = [some (.ref a), some (.int i), some (.ref p), some (.ref pf), y4, none, none] ∧ Ex H3 H' ∧ H' pf = some (.lst (rs bs)) ∧ LL H' bs (clsOf pre i) ∧ H' pm = some (.lst ((padM ns i).map V.int)) ∧ pm ∉ bs) (fun pm H5 hpm e5 h5 => ⟨none, rfl, n5.trans e5, e5 _ _ n6, n7.ex e5, h5, fun z => by
      obtain ⟨o, ho⟩ := n7.std pm z
      rw [hpm] at ho
      cases ho⟩) (fun pm pre σ' H' w => ?_) (fun pm pre n post σ' H' hn w => ?_) fun pm σ' H' w => ?_
    · obtain ⟨_, _, _, _, _, h, _⟩ := w
      exact sq_map h
    · obtain ⟨y4, rfl, e, hf, hl2, hpm, npm⟩ := w
      have hpl : pre.length < (padM ns i).length := by rw [hn]; simp
      have hr := rest_ok hL n
      obtain ⟨b, hb, hbo⟩ := hl2.at (clsOf_at (M := pre) hr)
      have hbm := List.mem_of_getElem? hb
      have hat := atI_rs hb
      have er : (((n % i).toNat : Nat) : Int) = n % i := by omega
      rw [er] at hat
      refine s_appI hbo (ev_ixl (ev_var rfl) (sq_of hf) (ev_mod (ev_var rfl) (ev_var rfl) hL) hat) (ev_div (ev_var rfl) (ev_var rfl) (div_ok hL hlog)) (hcl pre (by omega) n) fun H6 e6 => ?_
      refine ⟨_, rfl, (e.trans e6).mut (n2 b hbm), ?_, ?_, ?_, npm⟩
      · rw [upd_ne fun z => n4 (by rw [z]; exact hbm)]
        exact e6 _ _ hf
      · rw [clsOf_snoc hL]
        exact (hl2.ex e6).put n3 hb
      · rw [upd_ne fun z => npm (by rw [z]; exact hbm)]
        exact e6 _ _ hpm
    · obtain ⟨y4, rfl, e, hf, hl2, _, _⟩ := w
      refine s_retLL (ps := partsOf ns i) ?_ fun p5 bs5 H5 n => q p5 bs5 H5 (n.back (e03.trans e))
      rw [← clsOf_parts]
      refine ell_cS heapOf (ev_var rfl) (sl_of hf hl2) (by unfold clsOf; rw [List.length_map, List.length_range]; omega) (fun _ => rfl) fun b p hp hb => ?_
      exact el_call (ea_one (ev_var rfl)) (go_L (sq_map hb) (by have := clsOf_len hp; show _ ≤ 30000; omega) rfl)
theorem ok_is_whole {f : Addr} {fd : FuncData} (F : Fun K "is_whole" "is_whole" s_is_whole f fd) (g : mg "is_whole" = some (.ref f)) (B : Bl mg) :
    Dfn P w K mg base CX0 1 "is_whole" f fd ["thing"] sp_is_whole := by
  refine ⟨F.ok sc_is_whole (fun vs H Q E h => ?_) (fun cdv A outer s H vs Q E hr h => ?_), F.kp, F.binds (ps := ["thing"]) fun _ _ _ _ _ _ us hl => match us, hl with | [_], _ => rfl, g⟩
  · obtain ⟨i, rfl, hp, q⟩ := h
    rfl
  · obtain ⟨i, rfl, hp, q⟩ := h
    refine ⟨_, (pss_one (ps_ret (pe_and (pe_callB (Rh.k_isi K rfl) (by rfl) B.isinstance boot_isinstance (pa_cons (pv 0) (pa_cons (pe_bltn (v := .ty "int") (by rfl) B.int boot_int rfl) pa_nil))) (pe_one (pe_not (pe_callB (Rh.k_isi K rfl) (by rfl) B.isinstance boot_isinstance (pa_cons (pv 0) (pa_cons (pe_bltn (v := .ty "bool") (by rfl) B.bool boot_bool rfl) pa_nil)))))))), ?_⟩
    show (_ : TS) _ [some (.int i)] H
    refine s_ret (ev_is (ev_andV (ev_isiI (b := true) (ev_var rfl) (by decide +kernel)) fun _ => ev_notV (ev_isiI (b := false) (ev_var rfl) (by decide +kernel))) rfl) fun H1 e => q H1 e
theorem ok_is_heap {f : Addr} {fd : FuncData} (F : Fun K "is_heap" "is_heap" s_is_heap f fd) (g : mg "is_heap" = some (.ref f)) (B : Bl mg)
    {f_is_whole : Addr} {fd_is_whole : FuncData} (D_is_whole : Dfn P w K mg base CX0 1 "is_whole" f_is_whole fd_is_whole ["thing"] sp_is_whole) :
    Dfn P w K mg base CX0 2 "is_heap" f fd ["thing"] (sp_is_heap K) := by
  refine ⟨F.ok sc_is_heap (fun vs H Q E h => ?_) (fun cdv A outer s H vs Q E hr h => ?_), F.kp, F.binds (ps := ["thing"]) fun _ _ _ _ _ _ us hl => match us, hl with | [_], _ => rfl, g⟩
  · obtain ⟨a, ns, rfl, hS, hp, q⟩ := h
    rfl
  · obtain ⟨a, ns, rfl, hS, hp, q⟩ := h
    refine ⟨_, (pss_cons (ps_if (PW.pt (pw_or (pt_not (pt_val (pe_callB (Rh.k_isi K rfl) (by rfl) B.isinstance boot_isinstance (pa_cons (pv 0) (pa_cons (pe_bltn (v := .ty "list") (by rfl) B.list boot_list rfl) pa_nil))))) (pw_or1 (pt_not (pt_val (pe_callB (Rh.k_all K rfl (by rfl)) (by rfl) B.all boot_all (pa_cons (pe_lc (own := [("number", 2)]) (g := (gName 2)) (tt := tYes)  (by rfl) sc_is_heap.nd (pi_list (pv 0)) (blkOk_by (N := ["thing", "at", "number"]) (sc := defScope s_is_heap) (by decide +kernel)) (fun _ _ _ _ _ => (pg_name (i := 2) sc_is_heap.nd rfl (Or.inl rfl))) (fun _ _ _ _ _ => pts_nil) (fun _ _ _ _ _ => (pe_and (Rh.pe_dfn D_is_whole hr (by decide) (by rfl) pass0 (pa_cons (pv 2) pa_nil)) (pe_one (pe_cmpR op_gt (pv 2) pe_int (nomark _)))))) pa_nil)))))))
        (pss_one (ps_ret pe_bl)) pss_nil)
      (pss_one (ps_ret (pe_callB (Rh.k_all K rfl (by rfl)) (by rfl) B.all boot_all (pa_cons (pe_lc (own := [("at", 1)]) (g := (gName 1)) (tt := tYes)  (by rfl) sc_is_heap.nd (pi_range2 (by rfl) B.range (pa_cons pe_int (pa_cons (pe_callB (Rh.k_len K rfl) (by rfl) B.len PySem.boot_len (pa_cons (pv 0) pa_nil)) pa_nil))) (blkOk_by (N := ["thing", "at", "number"]) (sc := defScope s_is_heap) (by decide +kernel)) (fun _ _ _ _ _ => (pg_name (i := 1) sc_is_heap.nd rfl (Or.inl rfl))) (fun _ _ _ _ _ => pts_nil) (fun _ _ _ _ _ => (pe_cmpR op_le (pe_ix (Rh.k_ixl K rfl) (pv 0) (pv 1) (fun _ _ => rfl)) (pe_ix (Rh.k_ixl K rfl) (pv 0) (pe_op op_sub (pv 1) pe_int) (fun _ _ => rfl)) (nomark _)))) pa_nil))))), ?_⟩
    show (_ : TS) _ [some (.ref a), none, none] H
    obtain ⟨hH, hl⟩ := hp
    have a1 : (ns.map fun n => decide (0 < n)).all id = true := by
      rw [List.all_map, List.all_eq_true]
      intro x hx
      exact decide_eq_true (hH.pos x hx)
    have a2 : ((List.range ((ns.length : Int) - 1).toNat).map fun k => decide (ns.getD (k + 1) 0 ≤ ns.getD k 0)).all id = true := by
      rw [List.all_map, List.all_eq_true]
      intro k hk
      have hk := List.mem_range.mp hk
      have h1 : k + 1 < ns.length := by omega
      have := List.pairwise_iff_getElem.mp hH.falls k (k + 1) (by omega) h1 (by omega)
      have e1 : ns.getD (k + 1) 0 = ns[k + 1] := by rw [List.getD_eq_getElem?_getD, List.getElem?_eq_getElem h1]; rfl
      have e2 : ns.getD k 0 = ns[k] := by rw [List.getD_eq_getElem?_getD, List.getElem?_eq_getElem (by omega)]; rfl
      show decide (ns.getD (k + 1) 0 ≤ ns.getD k 0) = true
      rw [e1, e2]
      exact decide_eq_true this
    refine q_when (b := false) ?_ (fun h => nomatch h) fun _ H1 e1 => ?_
    · refine et_is (et_or (et_not (et_B (ev_isiL (b := true) (ev_var rfl) hS (by decide +kernel)))) fun _ => et_not (et_B (ev_allN (bs := ns.map fun n => decide (0 < n)) ?_))) (by rw [a1]; rfl)
      refine el_cLm V.bl _ (ev_var rfl) hS (by omega) (fun _ => rfl) fun n hn => ?_
      exact ev_is (ev_andV (ev_call (ea_cons (ev_var rfl) ea_nil) (go_i trivial rfl)) fun _ => ev_gt (ev_var rfl) ev_c) rfl
    · have s1 := ex_l e1 hS
      refine s_ret (v := .bl true) (ev_is (ev_allN (bs := (List.range ((ns.length : Int) - 1).toNat).map fun k => decide (ns.getD (k + 1) 0 ≤ ns.getD k 0)) ?_) (by rw [a2])) fun H2 e2 => RetV.go q (e1.trans e2)
      refine el_cR2 V.bl _ (ea_cons ev_c (ea_cons (ev_lenL (ev_var rfl) s1) ea_nil)) (by omega) (fun _ => rfl) fun k hk => ?_
      have h1 : k + 1 < ns.length := by omega
      have e1 : ns[k + 1]? = some (ns.getD (k + 1) 0) := by rw [List.getD_eq_getElem?_getD, List.getElem?_eq_getElem h1]; rfl
      have e2 : ns[k]? = some (ns.getD k 0) := by rw [List.getD_eq_getElem?_getD, List.getElem?_eq_getElem (by omega)]; rfl
      exact ev_le (ev_ix (ev_var rfl) (ev_is (ev_var rfl) (by show V.int (1 + (k : Int)) = V.int ((k + 1 : Nat) : Int); congr 1; omega)) s1 e1) (ev_ix (ev_var rfl) (ev_is (ev_sub (ev_var rfl) ev_c) (by congr 1; omega)) s1 e2)
theorem ok_check_heap {f : Addr} {fd : FuncData} (F : Fun K "check_heap" "check_heap" s_check_heap f fd) (g : mg "check_heap" = some (.ref f)) (B : Bl mg)
    {f_is_heap : Addr} {fd_is_heap : FuncData} (D_is_heap : Dfn P w K mg base CX0 2 "is_heap" f_is_heap fd_is_heap ["thing"] (sp_is_heap K)) :
    Dfn P w K mg base CX0 3 "check_heap" f fd ["heap"] (sp_check_heap K) := by
  refine ⟨F.ok sc_check_heap (fun vs H Q E h => ?_) (fun cdv A outer s H vs Q E hr h => ?_), F.kp, F.binds (ps := ["heap"]) fun _ _ _ _ _ _ us hl => match us, hl with | [_], _ => rfl, g⟩
  · obtain ⟨a, ns, rfl, hS, hp, q⟩ := h
    rfl
  · obtain ⟨a, ns, rfl, hS, hp, q⟩ := h
    refine ⟨_, (pss_one (ps_if (pt_not (pt_val (Rh.pe_dfn D_is_heap hr (by decide) (by rfl) pass0 (pa_cons (pv 0) pa_nil))))
        (pss_one ps_never) pss_nil)), ?_⟩
    show (_ : TS) _ [some (.ref a)] H
    refine s_if (b := false) (et_is (et_not (et_B (ev_call (ea_cons (ev_var rfl) ea_nil) (go_Lv hS hp rfl)))) rfl) (fun h => nomatch h) fun _ H1 e1 => ?_
    exact RetV.go q e1
theorem ok_check_length {f : Addr} {fd : FuncData} (F : Fun K "check_length" "check_length" s_check_length f fd) (g : mg "check_length" = some (.ref f)) (B : Bl mg)
    {f_is_whole : Addr} {fd_is_whole : FuncData} (D_is_whole : Dfn P w K mg base CX0 1 "is_whole" f_is_whole fd_is_whole ["thing"] sp_is_whole) :
    Dfn P w K mg base CX0 2 "check_length" f fd ["length"] sp_check_length := by
  refine ⟨F.ok sc_check_length (fun vs H Q E h => ?_) (fun cdv A outer s H vs Q E hr h => ?_), F.kp, F.binds (ps := ["length"]) fun _ _ _ _ _ _ us hl => match us, hl with | [_], _ => rfl, g⟩
  · obtain ⟨i, rfl, hp, q⟩ := h
    rfl
  · obtain ⟨i, rfl, hp, q⟩ := h
    refine ⟨_, (pss_one (ps_if (PW.pt (pw_or (pt_not (pt_val (Rh.pe_dfn D_is_whole hr (by decide) (by rfl) pass0 (pa_cons (pv 0) pa_nil)))) (pw_or1 (pt_cmpR op_lt (pv 0) pe_int (nomark _)))))
        (pss_one ps_never) pss_nil)), ?_⟩
    show (_ : TS) _ [some (.int i)] H
    have hi : 1 ≤ i := hp
    refine s_if (b := false) (et_is (et_or (et_not (et_B (ev_call (ea_cons (ev_var rfl) ea_nil) (go_i trivial rfl)))) fun _ => et_test (ev_lt (ev_var rfl) ev_c)) (by rw [decide_eq_false (by omega)]; rfl)) (fun h => nomatch h) fun _ H1 e1 => ?_
    exact RetV.go q e1
theorem ok_check_few {f : Addr} {fd : FuncData} (F : Fun K "check_few" "check_few" s_check_few f fd) (g : mg "check_few" = some (.ref f)) (B : Bl mg)
    {f_check_length : Addr} {fd_check_length : FuncData} (D_check_length : Dfn P w K mg base CX0 2 "check_length" f_check_length fd_check_length ["length"] sp_check_length)
    {t_MOST : Tok} (c_MOST : mg "MOST" = some (.int 100 t_MOST)) :
    Dfn P w K mg base CX0 3 "check_few" f fd ["length"] sp_check_few := by
  refine ⟨F.ok sc_check_few (fun vs H Q E h => ?_) (fun cdv A outer s H vs Q E hr h => ?_), F.kp, F.binds (ps := ["length"]) fun _ _ _ _ _ _ us hl => match us, hl with | [_], _ => rfl, g⟩
  · obtain ⟨i, rfl, hp, q⟩ := h
    rfl
  · obtain ⟨i, rfl, hp, q⟩ := h
    refine ⟨_, (pss_cons (ps_expr (Rh.pe_dfn D_check_length hr (by decide) (by rfl) pass0 (pa_cons (pv 0) pa_nil)))
      (pss_one (ps_if (pt_cmpR op_gt (pv 0) (pe_glob (v := .int 100) (by rfl) c_MOST ⟨_, rfl⟩) (nomark _))
        (pss_one ps_never) pss_nil))), ?_⟩
    show (_ : TS) _ [some (.int i)] H
    obtain ⟨h1, h2⟩ := hp
    refine q_chk (ev_call (ea_one (ev_var rfl)) (go_i h1 rfl)) fun H1 e1 => ?_
    refine s_if (b := false) (et_is (et_test (ev_gt (ev_var rfl) ev_c)) (by rw [decide_eq_false (by omega)])) (fun h => nomatch h) fun _ H2 e2 => ?_
    exact RetV.go q (e1.trans e2)
theorem ok_marks_of {f : Addr} {fd : FuncData} (F : Fun K "marks_of" "marks_of" s_marks_of f fd) (g : mg "marks_of" = some (.ref f)) (B : Bl mg) :
    Dfn P w K mg base CX0 1 "marks_of" f fd ["heap"] (sp_marks_of K) := by
  refine ⟨F.ok sc_marks_of (fun vs H Q E h => ?_) (fun cdv A outer s H vs Q E hr h => ?_), F.kp, F.binds (ps := ["heap"]) fun _ _ _ _ _ _ us hl => match us, hl with | [_], _ => rfl, g⟩
  · obtain ⟨a, ns, rfl, hS, hp, q⟩ := h
    rfl
  · obtain ⟨a, ns, rfl, hS, hp, q⟩ := h
    refine ⟨_, (pss_one (ps_ret (pe_lc (own := [("at", 1), ("number", 2)]) (g := (Rh.g2 K 1 2)) (tt := tYes)  (by rfl) sc_marks_of.nd (pi_enum (by rfl) B.enumerate (pa_cons (pv 0) pa_nil)) (blkOk_by (N := ["heap", "at", "number"]) (sc := defScope s_marks_of) (by decide +kernel)) (fun _ _ _ _ _ => (pg_tup rfl (pgs_cons (pg_name (i := 1) sc_marks_of.nd rfl (Or.inl rfl)) (pgs_cons (pg_name (i := 2) sc_marks_of.nd rfl (Or.inl rfl)) pgs_nil)))) (fun _ _ _ _ _ => pts_nil) (fun _ _ _ _ _ => (pe_op op_sub (pe_op op_sub (pe_op op_add (pv 2) (pe_callB (Rh.k_len K rfl) (by rfl) B.len PySem.boot_len (pa_cons (pv 0) pa_nil))) pe_int) (pv 1)))))), ?_⟩
    show (_ : TS) _ [some (.ref a), none, none] H
    refine s_retL (xs := (marksOf ns).map V.int) ?_ fun p H1 hn e h1 => q p H1 hn e h1
    rw [← marks_comp]
    refine el_cEm V.int _ (ev_var rfl) hS (by have : Len ns := hp; omega) (fun _ _ => rfl) fun n k hk => ?_
    walk_at "ev"
theorem ok_heap_of {f : Addr} {fd : FuncData} (F : Fun K "heap_of" "heap_of" s_heap_of f fd) (g : mg "heap_of" = some (.ref f)) (B : Bl mg) :
    Dfn P w K mg base CX0 1 "heap_of" f fd ["marks"] (sp_heap_of K) := by
  refine ⟨F.ok sc_heap_of (fun vs H Q E h => ?_) (fun cdv A outer s H vs Q E hr h => ?_), F.kp, F.binds (ps := ["marks"]) fun _ _ _ _ _ _ us hl => match us, hl with | [_], _ => rfl, g⟩
  · obtain ⟨a, ns, rfl, hS, hp, q⟩ := h
    rfl
  · obtain ⟨a, ns, rfl, hS, hp, q⟩ := h
    refine ⟨_, (pss_cons (ps_set (i := 1) sc_heap_of.nd rfl (Or.inr rfl) (pe_callBK (Rh.k_sorted (b := true) K rfl) (by rfl) B.sorted boot_sorted (pa_cons (pv 0) pa_nil) (pk_cons pe_bl pk_nil)))
      (pss_cons (ps_setLc (i := 2) (own := [("at", 3), ("mark", 4)]) (g := (Rh.g2 K 3 4)) (tt := tYes)  rfl sc_heap_of.nd rfl rfl (sw_true rfl rfl rfl (by decide +kernel)) (pi_enum (by rfl) B.enumerate (pa_cons (pv 1) pa_nil)) (blkOk_by (N := ["marks", "falling", "rows", "at", "mark", "number"]) (sc := defScope s_heap_of) (by decide +kernel)) (fun _ _ _ _ _ => (pg_tup rfl (pgs_cons (pg_name (i := 3) sc_heap_of.nd rfl (Or.inl rfl)) (pgs_cons (pg_name (i := 4) sc_heap_of.nd rfl (Or.inl rfl)) pgs_nil)))) (fun _ _ _ _ _ => pts_nil) (fun _ _ _ _ _ => (pe_op op_add (pe_op op_add (pe_op op_sub (pv 4) (pe_callB (Rh.k_len K rfl) (by rfl) B.len PySem.boot_len (pa_cons (pv 1) pa_nil))) pe_int) (pv 3))))
      (pss_one (ps_ret (pe_lc (own := [("number", 5)]) (g := (gName 5))  (by rfl) sc_heap_of.nd (pi_list (pv 2)) (blkOk_by (N := ["marks", "falling", "rows", "at", "mark", "number"]) (sc := defScope s_heap_of) (by decide +kernel)) (fun _ _ _ _ _ => (pg_name (i := 5) sc_heap_of.nd rfl (Or.inl rfl))) (fun _ _ _ _ _ => (pts_one (pt_cmpR op_gt (pv 5) pe_int (nomark _)))) (fun _ _ _ _ _ => (pv 5))))))), ?_⟩
    show (_ : TS) _ [some (.ref a), none, none, none, none, none] H
    have hl : Len ns := hp
    have hz : (sortD ns).length = ns.length := (sortD_perm ns).length_eq
    refine q_asgL (el_sortedR (ev_var rfl) hS) fun p H1 hn e1 h1 => ?_
    have s1 := sq_map (K := K) h1
    refine q_asgL (xs := (rowsOf (sortD ns)).map V.int) ?_ fun p2 H2 hn2 e2 h2 => ?_
    · rw [← rows_comp]
      refine el_cEm V.int _ (ev_var rfl) s1 (by omega) (fun _ _ => rfl) fun n k hk => ?_
      walk_at "ev"
    have s2 := sq_map (K := K) h2
    refine s_retL (xs := (heapOf ns).map V.int) ?_ fun p3 H3 hn3 e3 h3 => RetL.go q (e1.trans e2) hn3 e3 h3
    unfold heapOf
    rw [← pos_comp]
    refine el_cL V.int _ (ev_var rfl) s2 (by rw [rowsOf_len]; omega) (fun _ => rfl) (fun n hn => et_is (et_test (ev_gt (ev_var rfl) ev_c)) ?_) fun n hn y hy => ?_
    · by_cases c : 0 < n
      · rw [if_pos c, decide_eq_true c]; rfl
      · rw [if_neg c, decide_eq_false c]; rfl
    · split at hy
      · cases hy
        exact ev_var rfl
      · cases hy
theorem ok_parts {f : Addr} {fd : FuncData} (F : Fun K "parts" "parts" s_parts f fd) (g : mg "parts" = some (.ref f)) (B : Bl mg)
    {f_check_heap : Addr} {fd_check_heap : FuncData} (D_check_heap : Dfn P w K mg base CX0 3 "check_heap" f_check_heap fd_check_heap ["heap"] (sp_check_heap K))
    {f_check_few : Addr} {fd_check_few : FuncData} (D_check_few : Dfn P w K mg base CX0 3 "check_few" f_check_few fd_check_few ["length"] sp_check_few)
    {f_marks_of : Addr} {fd_marks_of : FuncData} (D_marks_of : Dfn P w K mg base CX0 1 "marks_of" f_marks_of fd_marks_of ["heap"] (sp_marks_of K))
    {f_heap_of : Addr} {fd_heap_of : FuncData} (D_heap_of : Dfn P w K mg base CX0 1 "heap_of" f_heap_of fd_heap_of ["marks"] (sp_heap_of K)) :
    Dfn P w K mg base CX0 4 "parts" f fd ["heap", "length"] sp_parts := by
  refine ⟨F.ok sc_parts (fun vs H Q E h => ?_) (fun cdv A outer s H vs Q E hr h => ?_), F.kp, F.binds (ps := ["heap", "length"]) fun _ _ _ _ _ _ us hl => match us, hl with | [_, _], _ => rfl, g⟩
  · obtain ⟨a, ns, i, rfl, hA, hp, q⟩ := h
    rfl
  · obtain ⟨a, ns, i, rfl, hA, hp, q⟩ := h
    refine ⟨_, (pss_cons (ps_expr (Rh.pe_dfn D_check_heap hr (by decide) (by rfl) pass0 (pa_cons (pv 0) pa_nil)))
      (pss_cons (ps_expr (Rh.pe_dfn D_check_few hr (by decide) (by rfl) pass0 (pa_cons (pv 1) pa_nil)))
      (pss_cons (ps_set (i := 2) sc_parts.nd rfl (Or.inl rfl) (Rh.pe_dfn D_marks_of hr (by decide) (by rfl) pass0 (pa_cons (pe_op op_cat (pv 0) (pe_op op_rep (pe_lst (pa_cons pe_int pa_nil)) (pe_op op_mod (pe_un un_neg (pe_callB (Rh.k_len K rfl) (by rfl) B.len PySem.boot_len (pa_cons (pv 0) pa_nil))) (pv 1)))) pa_nil)))
      (pss_cons (ps_setLc (i := 3) (own := [("rest", 5)]) (g := (gName 5)) (tt := tYes)  rfl sc_parts.nd rfl rfl (sw_true rfl rfl rfl (by decide +kernel)) (pi_range1 (by rfl) B.range (pa_cons (pv 1) pa_nil)) (blkOk_by (N := ["heap", "length", "told", "found", "mark", "rest", "some"]) (sc := defScope s_parts) (by decide +kernel)) (fun _ _ _ _ _ => (pg_name (i := 5) sc_parts.nd rfl (Or.inl rfl))) (fun _ _ _ _ _ => pts_nil) (fun _ _ _ _ _ => (pe_lst pa_nil)))
      (pss_cons (ps_for PassesOwn.never rfl (pi_list (pv 2)) (pg_name (i := 4) sc_parts.nd rfl (Or.inl rfl))
        (pss_one (ps_expr (pe_bm PySem.F.plainAttrs_list PySem.F.slot_list_append PySem.F.type_list_append mt_append (pe_ix (Rh.k_ixl K rfl) (pv 3) (pe_op op_mod (pv 4) (pv 1)) (fun _ _ => rfl)) (pa_cons (pe_op op_fdivW (pv 4) (pv 1)) pa_nil)))))
      (pss_one (ps_ret (pe_lc (own := [("some", 6)]) (g := (gName 6)) (tt := tYes)  (by rfl) sc_parts.nd (pi_list (pv 3)) (blkOk_by (N := ["heap", "length", "told", "found", "mark", "rest", "some"]) (sc := defScope s_parts) (by decide +kernel)) (fun _ _ _ _ _ => (pg_name (i := 6) sc_parts.nd rfl (Or.inl rfl))) (fun _ _ _ _ _ => pts_nil) (fun _ _ _ _ _ => (Rh.pe_dfn D_heap_of hr (by decide) (by rfl) pass0 (pa_cons (pv 6) pa_nil))))))))))), ?_⟩
    show (_ : TS) _ [some (.ref a), some (.int i), none, none, none, none, none] H
    obtain ⟨hh, hl, hL1, hL2⟩ := hp
    have hL : 0 < i := by omega
    have hlog := small_log (show 0 ≤ i by omega) (show i < 1000000 by omega)
    have hpn := padN_lt (h := ns) hL
    have hps := padM_size ns (L := i)
    have hrn := rest_ok hL (-(ns.length : Int))
    have hcl : ∀ pre : List Int, pre.length ≤ 25100 → ∀ n, (cl pre i (n % i)).length < 100000 := fun pre h n => by
      have := cnt_le pre i (n % i)
      rw [cl_len]
      omega
    refine q_chk (ev_call (ea_one (ev_var rfl)) (go_Lv (sq_map hA) ⟨hh, by show _ ≤ 30000; omega⟩ rfl)) fun H1 e1 => ?_
    refine q_chk (ev_call (ea_one (ev_var rfl)) (go_i ⟨hL1, hL2⟩ rfl)) fun H2 e2 => ?_
    have hA2 := (e1.trans e2) _ _ hA
    refine q_asgL (xs := (padM ns i).map V.int) (el_cL1 (el_pad (k := padN ns i) (ev_var rfl) hA2 (by omega) (ev_mod (ev_neg (ev_lenL (ev_var rfl) (sq_map hA2))) (ev_var rfl) hL) (by omega) rfl) (by show (ns ++ zeros (padN ns i)).length ≤ 30000; rw [List.length_append]; unfold zeros; rw [List.length_replicate]; omega) rfl) fun p H3 hp3 e3 h3 => ?_
    have e03 := (e1.trans e2).trans e3
    refine q_asgLLs (ell_cR (fun _ => []) (ea_one (ev_var rfl)) (by omega) (fun _ => rfl) fun k hk => el_nil) fun pf bs H4 n => ?_
    obtain ⟨n1, n2, n3, n4, n5, n6, n7⟩ := n
    refine q_forP (ev_var rfl) (sq_map (n5 _ _ h3)) (fun pre σ' H' => ∃ y4, σ' = [some (.ref a), some (.int i), some (.ref p), some (.ref pf), y4, none, none] ∧ Ex H3 H' ∧ H' pf = some (.lst (rs bs)) ∧ LL H' bs (clsOf pre i)) (fun H5 e5 => ⟨none, rfl, n5.trans e5, e5 _ _ n6, n7.ex e5⟩) (fun pre σ' H' w => ?_) (fun pre n post σ' H' hn w => ?_) fun σ' H' w => ?_
    · obtain ⟨_, _, e, _⟩ := w
      exact sq_map (e _ _ h3)
    · obtain ⟨y4, rfl, e, hf, hl2⟩ := w
      have hpl : pre.length < (padM ns i).length := by rw [hn]; simp
      have hr := rest_ok hL n
      obtain ⟨b, hb, hbo⟩ := hl2.at (clsOf_at (M := pre) hr)
      have hbm := List.mem_of_getElem? hb
      have hat := atI_rs hb
      have er : (((n % i).toNat : Nat) : Int) = n % i := by omega
      rw [er] at hat
      refine s_appI hbo (ev_ixl (ev_var rfl) (sq_of hf) (ev_mod (ev_var rfl) (ev_var rfl) hL) hat) (ev_div (ev_var rfl) (ev_var rfl) (div_ok hL hlog)) (hcl pre (by omega) n) fun H6 e6 => ?_
      refine ⟨_, rfl, (e.trans e6).mut (n2 b hbm), ?_, ?_⟩
      · rw [upd_ne fun z => n4 (by rw [z]; exact hbm)]
        exact e6 _ _ hf
      · rw [clsOf_snoc hL]
        exact (hl2.ex e6).put n3 hb
    · obtain ⟨y4, rfl, e, hf, hl2⟩ := w
      refine s_retLL (ps := partsOf ns i) ?_ fun p5 bs5 H5 n => q p5 bs5 H5 (n.back (e03.trans e))
      rw [← clsOf_parts]
      refine ell_cS heapOf (ev_var rfl) (sl_of hf hl2) (by unfold clsOf; rw [List.length_map, List.length_range]; omega) (fun _ => rfl) fun b p hp hb => ?_
      exact el_call (ea_one (ev_var rfl)) (go_L (sq_map hb) (by have := clsOf_len hp; show _ ≤ 30000; omega) rfl)
theorem ok_counts_of {f : Addr} {fd : FuncData} (F : Fun K "counts_of" "counts_of" s_counts_of f fd) (g : mg "counts_of" = some (.ref f)) (B : Bl mg) :
    Dfn P w K mg base CX0 1 "counts_of" f fd ["told", "length"] (sp_counts_of K) := by
  refine ⟨F.ok sc_counts_of (fun vs H Q E h => ?_) (fun cdv A outer s H vs Q E hr h => ?_), F.kp, F.binds (ps := ["told", "length"]) fun _ _ _ _ _ _ us hl => match us, hl with | [_, _], _ => rfl, g⟩
  · obtain ⟨a, ns, i, rfl, hS, hp, q⟩ := h
    rfl
  · obtain ⟨a, ns, i, rfl, hS, hp, q⟩ := h
    refine ⟨_, (pss_cons (ps_set (i := 2) sc_counts_of.nd rfl (Or.inl rfl) pe_dnewK)
      (pss_cons (ps_for PassesOwn.never rfl (pi_list (pv 0)) (pg_name (i := 3) sc_counts_of.nd rfl (Or.inl rfl))
        (pss_one (ps_dput (hu_of hr) (pv 2) (pe_op op_mod (pv 3) (pv 1)) (pe_op op_add (pe_dget2 (hu_of hr) (pv 2) (pe_op op_mod (pv 3) (pv 1)) pe_int ⟨rfl, rfl, rfl, rfl⟩) pe_int) rfl)))
      (pss_one (ps_ret (pv 2))))), ?_⟩
    show (_ : TS) _ [some (.ref a), some (.int i), none, none] H
    obtain ⟨hl, hi⟩ := hp
    refine q_dnew fun d H2 hd e2 h2 => ?_
    refine q_forP (ev_var rfl) (ex_l e2 hS) (fun pre σ' H' => ∃ y kvs, σ' = [some (.ref a), some (.int i), some (.ref d), y] ∧ Ex H H' ∧ H' d = some (.dK kvs) ∧ DTal kvs pre i) (fun H3 e3 => ⟨none, [], rfl, e2.trans e3, e3 _ _ h2, DTal.nil i⟩) (fun pre σ' H' w => ?_) (fun pre n post σ' H' hn w => ?_) fun σ' H' w => ?_
    · obtain ⟨_, _, _, e, _⟩ := w
      exact ex_l e hS
    · obtain ⟨y, kvs, rfl, e, hk, dt⟩ := w
      refine s_dput hk (ev_add (ev_is (ev_dget hk (ev_var rfl) (ev_mod (ev_var rfl) (ev_var rfl) hi) ev_c) (dt.get _)) ev_c) (ev_var rfl) (ev_mod (ev_var rfl) (ev_var rfl) hi) ?_ fun H4 e4 => ?_
      · have h5 := dt.len
        have h6 : pre.length ≤ ns.length := by rw [hn]; simp
        have : Len ns := hl
        omega
      · exact ⟨some (.int n), _, rfl, (e.trans e4).mut hd, upd_same, dt.put⟩
    · obtain ⟨y, kvs, rfl, e, hk, dt⟩ := w
      exact s_ret (ev_var rfl) fun H5 e5 => q d kvs H5 hd (e.trans e5) (e5 _ _ hk) dt
theorem ok_core {f : Addr} {fd : FuncData} (F : Fun K "core" "core" s_core f fd) (g : mg "core" = some (.ref f)) (B : Bl mg)
    {f_check_heap : Addr} {fd_check_heap : FuncData} (D_check_heap : Dfn P w K mg base CX0 3 "check_heap" f_check_heap fd_check_heap ["heap"] (sp_check_heap K))
    {f_check_length : Addr} {fd_check_length : FuncData} (D_check_length : Dfn P w K mg base CX0 2 "check_length" f_check_length fd_check_length ["length"] sp_check_length)
    {f_counts_of : Addr} {fd_counts_of : FuncData} (D_counts_of : Dfn P w K mg base CX0 1 "counts_of" f_counts_of fd_counts_of ["told", "length"] (sp_counts_of K))
    {f_marks_of : Addr} {fd_marks_of : FuncData} (D_marks_of : Dfn P w K mg base CX0 1 "marks_of" f_marks_of fd_marks_of ["heap"] (sp_marks_of K))
    {f_heap_of : Addr} {fd_heap_of : FuncData} (D_heap_of : Dfn P w K mg base CX0 1 "heap_of" f_heap_of fd_heap_of ["marks"] (sp_heap_of K)) :
    Dfn P w K mg base CX0 4 "core" f fd ["heap", "length"] (sp_core K) := by
  refine ⟨F.ok sc_core (fun vs H Q E h => ?_) (fun cdv A outer s H vs Q E hr h => ?_), F.kp, F.binds (ps := ["heap", "length"]) fun _ _ _ _ _ _ us hl => match us, hl with | [_, _], _ => rfl, g⟩
  · obtain ⟨a, ns, i, rfl, hS, hp, q⟩ := h
    rfl
  · obtain ⟨a, ns, i, rfl, hS, hp, q⟩ := h
    refine ⟨_, (pss_cons (ps_expr (Rh.pe_dfn D_check_heap hr (by decide) (by rfl) pass0 (pa_cons (pv 0) pa_nil)))
      (pss_cons (ps_expr (Rh.pe_dfn D_check_length hr (by decide) (by rfl) pass0 (pa_cons (pv 1) pa_nil)))
      (pss_cons (ps_set (i := 2) sc_core.nd rfl (Or.inl rfl) (pe_lst pa_nil))
      (pss_cons (ps_for PassesOwn.never rfl (pi_items (Rh.pe_frz (Rh.pe_dfn D_counts_of hr (by decide) (by rfl) pass0 (pa_cons (Rh.pe_dfn D_marks_of hr (by decide) (by rfl) pass0 (pa_cons (pv 0) pa_nil)) (pa_cons (pv 1) pa_nil))))) (pg_tup rfl (pgs_cons (pg_name (i := 3) sc_core.nd rfl (Or.inr rfl)) (pgs_cons (pg_name (i := 4) sc_core.nd rfl (Or.inl rfl)) pgs_nil)))
        (pss_one (ps_expr (pe_bm PySem.F.plainAttrs_list PySem.F.slot_list_extend PySem.F.type_list_extend mt_extend (pv 2) (pa_cons (pe_lc (own := [("k", 5)]) (g := (gName 5)) (tt := tYes)  (by rfl) sc_core.nd (pi_range1 (by rfl) B.range (pa_cons (pv 4) pa_nil)) (blkOk_by (N := ["heap", "length", "found", "rest", "count", "k"]) (sc := defScope s_core) (by decide +kernel)) (fun _ _ _ _ _ => (pg_name (i := 5) sc_core.nd rfl (Or.inl rfl))) (fun _ _ _ _ _ => pts_nil) (fun _ _ _ _ _ => (pe_op op_add (pv 3) (pe_op Rh.op_mulO (pv 1) (pv 5))))) pa_nil)))))
      (pss_one (ps_ret (Rh.pe_dfn D_heap_of hr (by decide) (by rfl) pass0 (pa_cons (pv 2) pa_nil)))))))), ?_⟩
    show (_ : TS) _ [some (.ref a), some (.int i), none, none, none, none] H
    obtain ⟨hh, hi⟩ := hp
    have hL : 0 < i := by have : 1 ≤ i := hi; omega
    have hl : Len ns := hh.2
    have hz : (marksOf ns).length = ns.length := marksOf_len ns
    refine q_chk (ev_call (ea_cons (ev_var rfl) ea_nil) (go_Lv hS hh rfl)) fun H1 e1 => ?_
    refine q_chk (ev_call (ea_cons (ev_var rfl) ea_nil) (go_i hi rfl)) fun H2 e2 => ?_
    refine q_lnew fun p H3 hn e3 h3 => ?_
    have e03 : Ex H H3 := (e1.trans e2).trans e3
    have hp0 : H p = none := fresh_back (e1.trans e2) hn
    have s3 := ex_l e03 hS
    refine q_forItems (M := marksOf ns) (L := i) (ed_counts (el_call (ea_cons (ev_var rfl) ea_nil) (go_L s3 hl rfl)) (ev_var rfl) (by omega) hL) (fun d od T pre σ' H' => ∃ y1 y2, σ' = [some (.ref a), some (.int i), some (.ref p), y1, y2, none] ∧ Ex H H' ∧ H' p = some (.lst ((flat i pre).map V.int)) ∧ H' d = some (.frz od (.dK (dT T)))) (fun d od T H4 e4 ht hd => ⟨none, none, rfl, e03.trans e4, e4 _ _ h3, hd⟩) (fun d od T pre σ' H' w => ?_) (fun d od T pre r c post A σ' H' hT ht w hA => ?_) fun d od T σ' H' ht w => ?_
    · obtain ⟨_, _, _, _, _, hd⟩ := w
      exact hd
    · obtain ⟨y1, y2, rfl, e, h4, hd⟩ := w
      have hc : c ≤ ns.length := by
        have := (ht.mem r c).mp (by rw [hT]; simp)
        rw [this.1, ← hz]
        exact cnt_le _ _ _
      have hf : (flat i pre).length + c ≤ ns.length := by
        have h5 := flat_len hL ht
        rw [hT] at h5
        unfold flat at h5 ⊢
        rw [List.flatMap_append, List.flatMap_cons, List.length_append, List.length_append] at h5
        have h6 : (steps i (r, c).1 (r, c).2).length = c := by simp [steps]
        omega
      refine s_extN (ms := steps i r c) (Ex.new hA _ _ h4) (ev_var rfl) ?_ (by rw [show (steps i r c).length = c by simp [steps]]; omega) fun H5 e5 => ?_
      · show EvL _ _ _ (((List.range ((c : Nat) : Int).toNat).map fun (k : Nat) => r + i * (k : Int)).map V.int)
        refine el_cR1 (hi := ((c : Nat) : Int)) V.int (fun k => r + i * (k : Int)) (ea_cons (ev_var rfl) ea_nil) (by omega) (fun _ => rfl) fun k hk => ?_
        exact ev_add (ev_var rfl) (ev_mulW (ev_var rfl) (ev_var rfl) (mul_smallR (by omega)))
      · have e6 : flat i (pre ++ [(r, c)]) = flat i pre ++ steps i r c := by
          unfold flat
          rw [List.flatMap_append, List.flatMap_cons, List.flatMap_nil, List.append_nil]
        rw [← e6]
        refine ⟨_, _, rfl, ((e.trans (Ex.new hA)).trans e5).mut hp0, upd_same, ?_⟩
        have hdp : d ≠ p := fun z => by
          rw [z, h4] at hd
          cases hd
        rw [upd_ne hdp]
        exact e5 _ _ (Ex.new hA _ _ hd)
    · obtain ⟨y1, y2, rfl, e, h4, hd⟩ := w
      have hf := flat_len hL ht
      exact s_retL (el_call (ea_cons (ev_var rfl) ea_nil) (go_L (sq_map h4) (by show (flat i T).length ≤ 30000; omega) (by show RI (heapOf (flat i T)) = RI (coreOf ns i); rw [flat_core_of hL ht]))) fun p5 H5 hn5 e5 h5 => RetL.go q e hn5 e5 h5
theorem ok__law_whole {f : Addr} {fd : FuncData} (F : Fun K "_law_whole" "_law_whole" s__law_whole f fd) (g : mg "_law_whole" = some (.ref f)) (B : Bl mg) :
    Dfn P w K mg base CX0 1 "_law_whole" f fd ["_law_number"] sp_is_whole := by
  refine ⟨F.ok sc__law_whole (fun vs H Q E h => ?_) (fun cdv A outer s H vs Q E hr h => ?_), F.kp, F.binds (ps := ["_law_number"]) fun _ _ _ _ _ _ us hl => match us, hl with | [_], _ => rfl, g⟩
  · obtain ⟨i, rfl, hp, q⟩ := h
    rfl
  · obtain ⟨i, rfl, hp, q⟩ := h
    refine ⟨_, (pss_one (ps_ret (pe_and (pe_callB (Rh.k_isi K rfl) (by rfl) B.isinstance boot_isinstance (pa_cons (pv 0) (pa_cons (pe_bltn (v := .ty "int") (by rfl) B.int boot_int rfl) pa_nil))) (pe_one (pe_not (pe_callB (Rh.k_isi K rfl) (by rfl) B.isinstance boot_isinstance (pa_cons (pv 0) (pa_cons (pe_bltn (v := .ty "bool") (by rfl) B.bool boot_bool rfl) pa_nil)))))))), ?_⟩
    show (_ : TS) _ [some (.int i)] H
    refine s_ret (ev_is (ev_andV (ev_isiI (b := true) (ev_var rfl) (by decide +kernel)) fun _ => ev_notV (ev_isiI (b := false) (ev_var rfl) (by decide +kernel))) rfl) fun H1 e => q H1 e
theorem ok__law_is_heap {f : Addr} {fd : FuncData} (F : Fun K "_law_is_heap" "_law_is_heap" s__law_is_heap f fd) (g : mg "_law_is_heap" = some (.ref f)) (B : Bl mg)
    {f__law_whole : Addr} {fd__law_whole : FuncData} (D__law_whole : Dfn P w K mg base CX0 1 "_law_whole" f__law_whole fd__law_whole ["_law_number"] sp_is_whole) :
    Dfn P w K mg base CX0 2 "_law_is_heap" f fd ["_law_found"] (sp_l_is_heap K) := by
  refine ⟨F.ok sc__law_is_heap (fun vs H Q E h => ?_) (fun cdv A outer s H vs Q E hr h => ?_), F.kp, F.binds (ps := ["_law_found"]) fun _ _ _ _ _ _ us hl => match us, hl with | [_], _ => rfl, g⟩
  · obtain ⟨a, ns, rfl, hS, hp, q⟩ := h
    rfl
  · obtain ⟨a, ns, rfl, hS, hp, q⟩ := h
    refine ⟨_, (pss_one (ps_ret (pe_and (pe_callB (Rh.k_isi K rfl) (by rfl) B.isinstance boot_isinstance (pa_cons (pv 0) (pa_cons (pe_bltn (v := .ty "list") (by rfl) B.list boot_list rfl) pa_nil))) (pe_one (pe_callB (Rh.k_all K rfl (by rfl)) (by rfl) B.all boot_all (pa_cons (pe_lc (own := [("_law_number", 1)]) (g := (gName 1)) (tt := tYes)  (by rfl) sc__law_is_heap.nd (pi_list (pv 0)) (blkOk_by (N := ["_law_found", "_law_number"]) (sc := defScope s__law_is_heap) (by decide +kernel)) (fun _ _ _ _ _ => (pg_name (i := 1) sc__law_is_heap.nd rfl (Or.inl rfl))) (fun _ _ _ _ _ => pts_nil) (fun _ _ _ _ _ => (Rh.pe_dfn D__law_whole hr (by decide) (by rfl) pass0 (pa_cons (pv 1) pa_nil)))) pa_nil)))))), ?_⟩
    show (_ : TS) _ [some (.ref a), none] H
    have hl : ns.length ≤ 30000 := hp
    refine s_ret (v := .bl true) (ev_is (ev_andV (ev_isiL (b := true) (ev_var rfl) hS (by decide +kernel)) fun _ => ev_allN (bs := ns.map fun _ => true) (el_cLm V.bl _ (ev_var rfl) hS (by omega) (fun _ => rfl) fun n hn => ev_call (ea_one (ev_var rfl)) (go_i trivial rfl))) ?_) fun H1 e => RetV.go q e
    have : (ns.map fun _ => true).all id = true := by
      rw [List.all_map, List.all_eq_true]
      intro x _
      rfl
    rw [this]
    rfl
theorem ok_rims_in {f : Addr} {fd : FuncData} (F : Fun K "rims_in" "rims_in" s_rims_in f fd) (g : mg "rims_in" = some (.ref f)) (B : Bl mg)
    {f_check_heap : Addr} {fd_check_heap : FuncData} (D_check_heap : Dfn P w K mg base CX0 3 "check_heap" f_check_heap fd_check_heap ["heap"] (sp_check_heap K))
    {f_check_length : Addr} {fd_check_length : FuncData} (D_check_length : Dfn P w K mg base CX0 2 "check_length" f_check_length fd_check_length ["length"] sp_check_length)
    {f_marks_of : Addr} {fd_marks_of : FuncData} (D_marks_of : Dfn P w K mg base CX0 1 "marks_of" f_marks_of fd_marks_of ["heap"] (sp_marks_of K))
    {f_counts_of : Addr} {fd_counts_of : FuncData} (D_counts_of : Dfn P w K mg base CX0 1 "counts_of" f_counts_of fd_counts_of ["told", "length"] (sp_counts_of K)) :
    Dfn P w K mg base CX0 4 "rims_in" f fd ["heap", "length"] (sp_rims_in K) := by
  refine ⟨F.ok sc_rims_in (fun vs H Q E h => ?_) (fun cdv A outer s H vs Q E hr h => ?_), F.kp, F.binds (ps := ["heap", "length"]) fun _ _ _ _ _ _ us hl => match us, hl with | [_, _], _ => rfl, g⟩
  · obtain ⟨a, ns, i, rfl, hS, hp, q⟩ := h
    rfl
  · obtain ⟨a, ns, i, rfl, hS, hp, q⟩ := h
    refine ⟨_, (pss_cons (ps_expr (Rh.pe_dfn D_check_heap hr (by decide) (by rfl) pass0 (pa_cons (pv 0) pa_nil)))
      (pss_cons (ps_expr (Rh.pe_dfn D_check_length hr (by decide) (by rfl) pass0 (pa_cons (pv 1) pa_nil)))
      (pss_cons (ps_set (i := 2) sc_rims_in.nd rfl (Or.inl rfl) (Rh.pe_dfn D_marks_of hr (by decide) (by rfl) pass0 (pa_cons (pv 0) pa_nil)))
      (pss_cons (ps_set (i := 3) sc_rims_in.nd rfl (Or.inl rfl) (pe_callB (Rh.k_sum K rfl (by rfl)) (by rfl) B.sum boot_sum (pa_cons (pe_lc (own := [("count", 4)]) (g := (gName 4)) (tt := tYes)  (by rfl) sc_rims_in.nd (pi_values (Rh.pe_frz (Rh.pe_dfn D_counts_of hr (by decide) (by rfl) pass0 (pa_cons (pv 2) (pa_cons (pv 1) pa_nil))))) (blkOk_by (N := ["heap", "length", "told", "lows", "count", "mark"]) (sc := defScope s_rims_in) (by decide +kernel)) (fun _ _ _ _ _ => (pg_name (i := 4) sc_rims_in.nd rfl (Or.inl rfl))) (fun _ _ _ _ _ => pts_nil) (fun _ _ _ _ _ => (pe_op op_fdivW (pe_op Rh.op_mulO (pv 4) (pe_op op_sub (pv 4) pe_int)) pe_int))) pa_nil)))
      (pss_one (ps_ret (pe_op op_sub (pe_callB (Rh.k_sum K rfl (by rfl)) (by rfl) B.sum boot_sum (pa_cons (pe_lc (own := [("mark", 5)]) (g := (gName 5)) (tt := tYes)  (by rfl) sc_rims_in.nd (pi_list (pv 2)) (blkOk_by (N := ["heap", "length", "told", "lows", "count", "mark"]) (sc := defScope s_rims_in) (by decide +kernel)) (fun _ _ _ _ _ => (pg_name (i := 5) sc_rims_in.nd rfl (Or.inl rfl))) (fun _ _ _ _ _ => pts_nil) (fun _ _ _ _ _ => (pe_op op_fdivW (pv 5) (pv 1)))) pa_nil)) (pv 3)))))))), ?_⟩
    show (_ : TS) _ [some (.ref a), some (.int i), none, none, none, none] H
    obtain ⟨hh, hi, hw⟩ := hp
    have hL : 0 < i := by have : 1 ≤ i := hi; omega
    have hl : Len ns := hh.2
    have hz : (marksOf ns).length = ns.length := marksOf_len ns
    refine q_chk (ev_call (ea_cons (ev_var rfl) ea_nil) (go_Lv hS hh rfl)) fun H1 e1 => ?_
    refine q_chk (ev_call (ea_cons (ev_var rfl) ea_nil) (go_i hi rfl)) fun H2 e2 => ?_
    refine q_asgL (el_call (ea_cons (ev_var rfl) ea_nil) (go_L (ex_l (e1.trans e2) hS) hl rfl)) fun p H3 hn e3 h3 => ?_
    have s3 := sq_map (K := K) h3
    refine q_asg (ev_sumVals (K := K) (M := marksOf ns) (L := i) (X := ((marksOf ns).map (· / i)).sum - rimsIn ns i) (ed_counts0 (ev_var rfl) s3 (ev_var rfl) (by omega) hL) (by omega) (fun _ => rfl) (fun c hc => ?_) fun T ht => ?_) fun H4 e4 => ?_
    · refine ev_is (ev_div (ev_mulW (ev_var rfl) (ev_sub (ev_var rfl) ev_c) (mul_small (by omega))) ev_c ⟨by decide, by decide⟩) ?_
      rw [tri_eq]
    · have := many_tally hL ht
      show lowSum T = _ - manyOf (marksOf ns) i
      omega
    · have s4 := ex_l e4 s3
      refine s_ret (ev_is (ev_sub (ev_sumN (el_cLm V.int (fun m => m / i) (ev_var rfl) s4 (by omega) (fun _ => rfl) fun n hn => ev_div (ev_var rfl) (ev_var rfl) (div_ok hL hw))) (ev_var rfl)) ?_) fun H5 e5 => RetV.go q ((((e1.trans e2).trans e3).trans e4).trans e5)
      congr 1
      omega
theorem ok_rims_of {f : Addr} {fd : FuncData} (F : Fun K "rims_of" "rims_of" s_rims_of f fd) (g : mg "rims_of" = some (.ref f)) (B : Bl mg)
    {f_marks_of : Addr} {fd_marks_of : FuncData} (D_marks_of : Dfn P w K mg base CX0 1 "marks_of" f_marks_of fd_marks_of ["heap"] (sp_marks_of K)) :
    Dfn P w K mg base CX0 2 "rims_of" f fd ["heap", "length"] (sp_rims_of K) := by
  refine ⟨F.ok sc_rims_of (fun vs H Q E h => ?_) (fun cdv A outer s H vs Q E hr h => ?_), F.kp, F.binds (ps := ["heap", "length"]) fun _ _ _ _ _ _ us hl => match us, hl with | [_, _], _ => rfl, g⟩
  · obtain ⟨a, ns, i, rfl, hS, hp, q⟩ := h
    rfl
  · obtain ⟨a, ns, i, rfl, hS, hp, q⟩ := h
    refine ⟨_, (pss_cons (ps_set (i := 2) sc_rims_of.nd rfl (Or.inl rfl) (Rh.pe_dfn D_marks_of hr (by decide) (by rfl) pass0 (pa_cons (pv 0) pa_nil)))
      (pss_cons (ps_set (i := 3) sc_rims_of.nd rfl (Or.inr rfl) pe_dnewK)
      (pss_cons (ps_for PassesOwn.never rfl (pi_list (pv 2)) (pg_name (i := 4) sc_rims_of.nd rfl (Or.inl rfl))
        (pss_one (ps_dput (hu_of hr) (pv 3) (pv 4) pe_bl rfl)))
      (pss_one (ps_ret (pe_lc (own := [("row", 5), ("mark", 4)]) (g := (Rh.g2 K 5 4))  (by rfl) sc_rims_of.nd (pi_enum (by rfl) B.enumerate (pa_cons (pv 2) pa_nil)) (blkOk_by (N := ["heap", "length", "told", "known", "mark", "row"]) (sc := defScope s_rims_of) (by decide +kernel)) (fun _ _ _ _ _ => (pg_tup rfl (pgs_cons (pg_name (i := 5) sc_rims_of.nd rfl (Or.inl rfl)) (pgs_cons (pg_name (i := 4) sc_rims_of.nd rfl (Or.inl rfl)) pgs_nil)))) (fun _ _ _ _ _ => (pts_one (PW.pt (pw_and (pt_cmpR op_ge (pv 4) (pv 1) (nomark _)) (pw_and1 (pt_cmp (pc_dnotin (hu_of hr) (pe_op op_sub (pv 4) (pv 1)) (pv 3)))))))) (fun _ _ _ _ _ => (pv 5)))))))), ?_⟩
    show (_ : TS) _ [some (.ref a), some (.int i), none, none, none, none] H
    have hl : Len ns := hp
    have hz : (marksOf ns).length = ns.length := marksOf_len ns
    refine q_asgL (el_call (ea_cons (ev_var rfl) ea_nil) (go_L hS hl rfl)) fun p H1 hn e1 h1 => ?_
    refine q_dnew fun d H2 hd e2 h2 => ?_
    refine q_forP (ev_var rfl) (sq_map (e2 _ _ h1)) (fun pre σ' H' => ∃ y kvs, σ' = [some (.ref a), some (.int i), some (.ref p), some (.ref d), y, none] ∧ Ex H1 H' ∧ H' d = some (.dK kvs) ∧ DSeen kvs pre) (fun H3 e3 => ⟨none, [], rfl, e2.trans e3, e3 _ _ h2, DSeen.nil⟩) (fun pre σ' H' w => ?_) (fun pre n post σ' H' hn w => ?_) fun σ' H' w => ?_
    · obtain ⟨_, _, _, e, _⟩ := w
      exact sq_map (e _ _ h1)
    · obtain ⟨y, kvs, rfl, e, hk, ds⟩ := w
      refine s_dput hk ev_c (ev_var rfl) (ev_var rfl) ?_ fun H4 e4 => ?_
      · have h5 := ds.2
        have h6 : pre.length ≤ (marksOf ns).length := by rw [hn]; simp
        omega
      · exact ⟨some (.int n), _, rfl, (e.trans e4).mut hd, upd_same, ds.put⟩
    · obtain ⟨y, kvs, rfl, e, hk, ds⟩ := w
      refine s_retL (xs := (rimsH ns i).map V.int) ?_ fun p3 H3 hn3 e3 h3 => RetL.go q (e1.trans e) hn3 e3 h3
      unfold rimsH
      rw [← rims_comp]
      refine el_cE V.int _ (ev_var rfl) (sq_map (e _ _ h1)) (by omega) (fun _ _ => rfl) (fun n k hk2 => et_is (et_and (et_test (ev_ge (ev_var rfl) (ev_var rfl))) fun _ => et_B (ev_dnin hk (ev_sub (ev_var rfl) (ev_var rfl)) (ev_var rfl))) ?_) fun n k hk2 y hy => ?_
      · rw [ds.1]
        show _ = Option.isSome (if (decide (i ≤ n) && !decide (n - i ∈ marksOf ns)) = true then some (((k : Nat) : Int)) else none)
        cases (decide (i ≤ n) && !decide (n - i ∈ marksOf ns)) <;> rfl
      · have hy : (if (decide (i ≤ n) && !decide (n - i ∈ marksOf ns)) = true then some (((k : Nat) : Int)) else none) = some y := hy
        split at hy
        · cases hy
          exact ev_var rfl
        · cases hy
theorem ok_joined {f : Addr} {fd : FuncData} (F : Fun K "joined" "joined" s_joined f fd) (g : mg "joined" = some (.ref f)) (B : Bl mg)
    {f_check_heap : Addr} {fd_check_heap : FuncData} (D_check_heap : Dfn P w K mg base CX0 3 "check_heap" f_check_heap fd_check_heap ["heap"] (sp_check_heap K))
    {f_check_few : Addr} {fd_check_few : FuncData} (D_check_few : Dfn P w K mg base CX0 3 "check_few" f_check_few fd_check_few ["length"] sp_check_few)
    {f_is_heap : Addr} {fd_is_heap : FuncData} (D_is_heap : Dfn P w K mg base CX0 2 "is_heap" f_is_heap fd_is_heap ["thing"] (sp_is_heap K))
    {f_rims_of : Addr} {fd_rims_of : FuncData} (D_rims_of : Dfn P w K mg base CX0 2 "rims_of" f_rims_of fd_rims_of ["heap", "length"] (sp_rims_of K))
    {f_marks_of : Addr} {fd_marks_of : FuncData} (D_marks_of : Dfn P w K mg base CX0 1 "marks_of" f_marks_of fd_marks_of ["heap"] (sp_marks_of K))
    {f_counts_of : Addr} {fd_counts_of : FuncData} (D_counts_of : Dfn P w K mg base CX0 1 "counts_of" f_counts_of fd_counts_of ["told", "length"] (sp_counts_of K))
    {f_heap_of : Addr} {fd_heap_of : FuncData} (D_heap_of : Dfn P w K mg base CX0 1 "heap_of" f_heap_of fd_heap_of ["marks"] (sp_heap_of K)) :
    Dfn P w K mg base CX0 4 "joined" f fd ["core", "parts", "length"] (sp_joined K) := by
  refine ⟨F.ok sc_joined (fun vs H Q E h => ?_) (fun cdv A outer s H vs Q E hr h => ?_), F.kp, F.binds (ps := ["core", "parts", "length"]) fun _ _ _ _ _ _ us hl => match us, hl with | [_, _, _], _ => rfl, g⟩
  · obtain ⟨a, b, ns, ps, i, rfl, hA, hB, hp, q⟩ := h
    rfl
  · obtain ⟨a, b, ns, ps, i, rfl, hA, hB, hp, q⟩ := h
    refine ⟨_, (pss_cons (ps_expr (Rh.pe_dfn D_check_heap hr (by decide) (by rfl) pass0 (pa_cons (pv 0) pa_nil)))
      (pss_cons (ps_expr (Rh.pe_dfn D_check_few hr (by decide) (by rfl) pass0 (pa_cons (pv 2) pa_nil)))
      (pss_cons (ps_if (PW.pt (pw_or (pt_not (pt_val (pe_callB (Rh.k_isi K rfl) (by rfl) B.isinstance boot_isinstance (pa_cons (pv 1) (pa_cons (pe_bltn (v := .ty "list") (by rfl) B.list boot_list rfl) pa_nil))))) (pw_or (pt_cmpR op_ne (pe_callB (Rh.k_len K rfl) (by rfl) B.len PySem.boot_len (pa_cons (pv 1) pa_nil)) (pv 2) (nomark _)) (pw_or1 (pt_not (pt_val (pe_callB (Rh.k_all K rfl (by rfl)) (by rfl) B.all boot_all (pa_cons (pe_lc (own := [("part", 3)]) (g := (gName 3)) (tt := tYes)  (by rfl) sc_joined.nd (pi_list (pv 1)) (blkOk_by (N := ["core", "parts", "length", "part", "deep", "told", "counts", "found", "rest", "rows", "mark"]) (sc := defScope s_joined) (by decide +kernel)) (fun _ _ _ _ _ => (pg_name (i := 3) sc_joined.nd rfl (Or.inl rfl))) (fun _ _ _ _ _ => pts_nil) (fun _ _ _ _ _ => (Rh.pe_dfn D_is_heap hr (by decide) (by rfl) pass0 (pa_cons (pv 3) pa_nil)))) pa_nil))))))))
        (pss_one ps_never) pss_nil)
      (pss_cons (ps_if (pt_cmpR (Rh.k_neD K rfl hr.units) (Rh.pe_dfn D_rims_of hr (by decide) (by rfl) pass0 (pa_cons (pv 0) (pa_cons (pv 2) pa_nil))) (pe_lst pa_nil) (nomark _))
        (pss_one ps_never) pss_nil)
      (pss_cons (ps_set (i := 4) sc_joined.nd rfl (Or.inl rfl) (pe_callB (Rh.k_max K rfl (by rfl)) (by rfl) B.max boot_max (pa_cons (pe_lc (own := [("part", 3)]) (g := (gName 3)) (tt := tYes)  (by rfl) sc_joined.nd (pi_list (pv 1)) (blkOk_by (N := ["core", "parts", "length", "part", "deep", "told", "counts", "found", "rest", "rows", "mark"]) (sc := defScope s_joined) (by decide +kernel)) (fun _ _ _ _ _ => (pg_name (i := 3) sc_joined.nd rfl (Or.inl rfl))) (fun _ _ _ _ _ => pts_nil) (fun _ _ _ _ _ => (pe_callB (Rh.k_len K rfl) (by rfl) B.len PySem.boot_len (pa_cons (pv 3) pa_nil)))) pa_nil)))
      (pss_cons (ps_set (i := 5) sc_joined.nd rfl (Or.inl rfl) (Rh.pe_dfn D_marks_of hr (by decide) (by rfl) pass0 (pa_cons (pe_op op_cat (pv 0) (pe_op op_rep (pe_lst (pa_cons pe_int pa_nil)) (pe_op op_add (pe_op op_mod (pe_un un_neg (pe_callB (Rh.k_len K rfl) (by rfl) B.len PySem.boot_len (pa_cons (pv 0) pa_nil))) (pv 2)) (pe_op Rh.op_mulO (pv 2) (pv 4))))) pa_nil)))
      (pss_cons (ps_set (i := 6) sc_joined.nd rfl (Or.inl rfl) (Rh.pe_dfn D_counts_of hr (by decide) (by rfl) pass0 (pa_cons (pv 5) (pa_cons (pv 2) pa_nil))))
      (pss_cons (ps_set (i := 7) sc_joined.nd rfl (Or.inl rfl) (pe_lst pa_nil))
      (pss_cons (ps_for PassesOwn.never rfl (pi_enum (by rfl) B.enumerate (pa_cons (pv 1) pa_nil)) (pg_tup rfl (pgs_cons (pg_name (i := 8) sc_joined.nd rfl (Or.inr rfl)) (pgs_cons (pg_name (i := 3) sc_joined.nd rfl (Or.inl rfl)) pgs_nil)))
        (pss_cons (ps_set (i := 9) sc_joined.nd rfl (Or.inl rfl) (pe_op op_cat (pv 3) (pe_op op_rep (pe_lst (pa_cons pe_int pa_nil)) (pe_op op_sub (pe_dget2 (hu_of hr) (pv 6) (pv 8) pe_int ⟨rfl, rfl, rfl, rfl⟩) (pe_callB (Rh.k_len K rfl) (by rfl) B.len PySem.boot_len (pa_cons (pv 3) pa_nil))))))
      (pss_one (ps_expr (pe_bm PySem.F.plainAttrs_list PySem.F.slot_list_extend PySem.F.type_list_extend mt_extend (pv 7) (pa_cons (pe_lc (own := [("mark", 10)]) (g := (gName 10)) (tt := tYes)  (by rfl) sc_joined.nd (pi_list (Rh.pe_dfn D_marks_of hr (by decide) (by rfl) pass0 (pa_cons (pv 9) pa_nil))) (blkOk_by (N := ["core", "parts", "length", "part", "deep", "told", "counts", "found", "rest", "rows", "mark"]) (sc := defScope s_joined) (by decide +kernel)) (fun _ _ _ _ _ => (pg_name (i := 10) sc_joined.nd rfl (Or.inl rfl))) (fun _ _ _ _ _ => pts_nil) (fun _ _ _ _ _ => (pe_op op_add (pv 8) (pe_op Rh.op_mulO (pv 2) (pv 10))))) pa_nil))))))
      (pss_one (ps_ret (Rh.pe_dfn D_heap_of hr (by decide) (by rfl) pass0 (pa_cons (pv 7) pa_nil))))))))))))), ?_⟩
    show (_ : TS) _ [some (.ref a), some (.ref b), some (.int i), none, none, none, none, none, none, none, none] H
    have hL := hp.pos
    have hL1 := hp.lo
    have hL2 := hp.hi
    have hfew := hp.few
    obtain ⟨z1, z2, z3⟩ := hp.size
    obtain ⟨_, hjl⟩ := hp.join
    have hrn := rest_ok hL (-(ns.length : Int))
    have hpl := hp.len
    refine q_chk (ev_call (ea_one (ev_var rfl)) (go_Lv (sq_map hA) ⟨hp.heap, by show _ ≤ 30000; omega⟩ rfl)) fun H1 e1 => ?_
    refine q_chk (ev_call (ea_one (ev_var rfl)) (go_i ⟨hL1, hL2⟩ rfl)) fun H2 e2 => ?_
    have e02 := e1.trans e2
    have hB2 := hB.ex e02
    refine q_when (b := false) (et_is (et_or (et_not (et_B (ev_isiS (b := true) (ev_var rfl) hB2 (by decide +kernel)))) fun _ => et_or (et_test (ev_neI (ev_lenS (ev_var rfl) hB2) (ev_var rfl))) fun _ => et_not (et_B (ev_allN (bs := ps.map fun _ => true) (el_cS V.bl (fun _ => true) (ev_var rfl) hB2 (by omega) (fun _ => rfl) fun b p hpm hb => ev_call (ea_one (ev_var rfl)) (go_Lv (sq_map hb) ⟨(hp.all p hpm).1, by have := (hp.all p hpm).2; show _ ≤ 30000; omega⟩ rfl))))) (by rw [all_true, hpl]; simp)) (fun h => nomatch h) fun _ H3 e3 => ?_
    have e03 := e02.trans e3
    refine q_when (b := false) (et_is (et_test (ev_neNN (el_call (ea_two (ev_var rfl) (ev_var rfl)) (go_Li (sq_map (e03 _ _ hA)) (by show _ ≤ 30000; omega) rfl)) el_nil)) (by rw [hp.core]; rfl)) (fun h => nomatch h) fun _ H4 e4 => ?_
    have e04 := e03.trans e4
    refine q_asg (v := .int ((deepOf ps : Nat) : Int)) (ev_maxN (el_cS V.int (fun p => ((p.length : Nat) : Int)) (ev_var rfl) (hB.ex e04) (by omega) (fun _ => rfl) fun b p hpm hb => ev_lenL (ev_var rfl) (sq_map hb)) (by rw [List.length_map]; omega) fun m h1 h2 => hp.max h1 h2) fun H5 e5 => ?_
    have e05 := e04.trans e5
    have hA5 := e05 _ _ hA
    have hmul : ((i.toNat * deepOf ps : Nat) : Int) = i * ((deepOf ps : Nat) : Int) := by
      rw [Int.natCast_mul]
      congr 1
      omega
    have hpe := padN_eq (h := ns) hL
    refine q_asgL (xs := (toldJ ns ps i).map V.int) (el_cL1 (el_pad (k := padN ns i + i.toNat * deepOf ps) (ev_var rfl) hA5 (by omega) (ev_add (ev_mod (ev_neg (ev_lenL (ev_var rfl) (sq_map hA5))) (ev_var rfl) hL) (ev_mulW (ev_var rfl) (ev_var rfl) (mul_small (by omega)))) (by omega) (by omega)) (by show (ns ++ zeros (padN ns i + i.toNat * deepOf ps)).length ≤ 30000; rw [List.length_append]; unfold zeros; rw [List.length_replicate]; omega) rfl) fun pt H6 hpt e6 h6 => ?_
    have htl : (toldJ ns ps i).length ≤ 30000 := by unfold toldJ; rw [pad_len]; omega
    refine q_asgD (ed_counts0 (ev_var rfl) (sq_map h6) (ev_var rfl) htl hL) fun d kvs H7 hd e7 h7 dt => ?_
    refine q_lnew fun pf H8 hpf e8 h8 => ?_
    have e07 := (e05.trans e6).trans e7
    have hpf0 : H7 pf = none := hpf
    obtain ⟨bs, hbs, hll⟩ := hB.ex e07
    refine q_forEX (ev_var rfl) (ex_l e8 hbs) (fun k σ' H' => ∃ y3 y8 y9, σ' = [some (.ref a), some (.ref b), some (.int i), y3, some (.int ((deepOf ps : Nat) : Int)), some (.ref pt), some (.ref d), some (.ref pf), y8, y9, none] ∧ Ex H7 H' ∧ H' pf = some (.lst ((joinF (toldJ ns ps i) i 0 (ps.take k)).map V.int))) (fun H9 e9 => ⟨_, _, _, rfl, e8.trans e9, e9 _ _ h8⟩) (fun k σ' H' _ w => ?_) (fun k x T σ' H' hx w hT => ?_) fun σ' H' w => ?_
    · obtain ⟨_, _, _, _, e, _⟩ := w
      exact ex_l e hbs
    · obtain ⟨y3, y8, y9, rfl, e, hf⟩ := w
      have hlb := hll.ex e
      obtain ⟨bb, hbb, rfl⟩ := rs_at hx
      obtain ⟨p, hpp, hpo⟩ := hlb.get hbb
      have hpm := List.mem_of_getElem? hpp
      have hpl2 := (hp.all p hpm).2
      have hk := (List.getElem?_eq_some_iff.mp hpp).1
      have eT : Ex H' (upd H' T (.tup [.int (k : Nat), .ref bb])) := Ex.new hT
      have hc := cnt_le (toldJ ns ps i) i (k : Int)
      refine q_asgL (xs := (rowJ (toldJ ns ps i) i k p).map V.int) (el_pad (k := cnt (toldJ ns ps i) i k - p.length) (ev_var rfl) (eT _ _ hpo) (by omega) (ev_sub (ev_is (ev_dget ((e.trans eT) _ _ h7) (ev_var rfl) (ev_var rfl) ev_c) (dt.get _)) (ev_lenL (ev_var rfl) (sq_map (eT _ _ hpo)))) (by omega) (by omega)) fun pr HA hpr eA hA2 => ?_
      have hrl : (rowJ (toldJ ns ps i) i k p).length ≤ 30000 := by
        unfold rowJ zeros
        rw [List.length_append, List.length_replicate]
        omega
      have ht1 := joinF_take (toldJ ns ps i) i ps (k + 1)
      have hsn : joinF (toldJ ns ps i) i 0 (ps.take (k + 1)) = joinF (toldJ ns ps i) i 0 (ps.take k) ++ marksJ (toldJ ns ps i) i k p := by
        rw [List.take_add_one, hpp]
        show joinF _ i 0 (ps.take k ++ [p]) = _
        rw [joinF_snoc, List.length_take, Nat.zero_add, Nat.min_eq_left (by omega)]
      rw [hsn, List.length_append] at ht1
      refine s_extN (ms := marksJ (toldJ ns ps i) i k p) (eA _ _ (eT _ _ hf)) (ev_var rfl) (EvL.asIter (el_call (ea_one (ev_var rfl)) (go_L (sq_map hA2) hrl rfl)) fun p1 HB eB hB1 => el_cLm V.int (fun m => (k : Int) + i * m) ev_c (sq_map hB1) (by rw [marksOf_len]; omega) (fun _ => rfl) fun m hm => ev_add (ev_var rfl) (ev_mulW (ev_var rfl) (ev_var rfl) (mul_small (by omega)))) (by omega) fun HC eC => ?_
      exact ⟨_, _, _, rfl, (((e.trans eT).trans eA).trans eC).mut hpf0, by rw [upd_same, hsn]⟩
    · obtain ⟨y3, y8, y9, rfl, e, hf⟩ := w
      rw [rs_len, hll.len, List.take_length] at hf
      exact s_retL (el_call (ea_one (ev_var rfl)) (go_L (sq_map hf) (by show (joinF _ i 0 ps).length ≤ 30000; omega) rfl)) fun p5 H9 hn5 e9 h9 => RetL.go q (e07.trans e) hn5 e9 h9
theorem ok__law_heap_right {f : Addr} {fd : FuncData} (F : Fun K "_law_heap_right" "_law_heap_right" s__law_heap_right f fd) (g : mg "_law_heap_right" = some (.ref f)) (B : Bl mg)
    {f__law_parts : Addr} {fd__law_parts : FuncData} (D__law_parts : Dfn P w K mg base CX0 2 "_law_parts" f__law_parts fd__law_parts ["_law_heap_here", "_law_length"] sp_parts)
    {f_parts : Addr} {fd_parts : FuncData} (D_parts : Dfn P w K mg base CX0 4 "parts" f_parts fd_parts ["heap", "length"] sp_parts)
    {f_core : Addr} {fd_core : FuncData} (D_core : Dfn P w K mg base CX0 4 "core" f_core fd_core ["heap", "length"] (sp_core K))
    {f__law_is_heap : Addr} {fd__law_is_heap : FuncData} (D__law_is_heap : Dfn P w K mg base CX0 2 "_law_is_heap" f__law_is_heap fd__law_is_heap ["_law_found"] (sp_l_is_heap K))
    {f_rims_in : Addr} {fd_rims_in : FuncData} (D_rims_in : Dfn P w K mg base CX0 4 "rims_in" f_rims_in fd_rims_in ["heap", "length"] (sp_rims_in K))
    {f_joined : Addr} {fd_joined : FuncData} (D_joined : Dfn P w K mg base CX0 4 "joined" f_joined fd_joined ["core", "parts", "length"] (sp_joined K)) :
    Dfn P w K mg base CX0 5 "_law_heap_right" f fd ["_law_heap_here", "_law_length"] sp_l_heap_right := by
  refine ⟨F.ok sc__law_heap_right (fun vs H Q E h => ?_) (fun cdv A outer s H vs Q E hr h => ?_), F.kp, F.binds (ps := ["_law_heap_here", "_law_length"]) fun _ _ _ _ _ _ us hl => match us, hl with | [_, _], _ => rfl, g⟩
  · obtain ⟨a, ns, i, rfl, hA, hp, q⟩ := h
    rfl
  · obtain ⟨a, ns, i, rfl, hA, hp, q⟩ := h
    refine ⟨_, (pss_cons (ps_par (i := 2) (j := 3) rfl sc__law_heap_right.nd rfl rfl (by decide) rfl rfl (pa_cons (pe_callTy (Rh.k_list K rfl) (by rfl) B.list boot_list (pa_cons (pv 0) pa_nil)) (pa_cons (Rh.pe_dfn D__law_parts hr (by decide) (by rfl) pass0 (pa_cons (pv 0) (pa_cons (pv 1) pa_nil))) pa_nil)) (by rfl))
      (pss_cons (ps_for PassesOwn.never rfl (pi_range1 (by rfl) B.range (pa_cons pe_int pa_nil)) (pg_name (i := 4) sc__law_heap_right.nd rfl (Or.inl rfl))
        (pss_cons (ps_par (i := 5) (j := 6) rfl sc__law_heap_right.nd rfl rfl (by decide) rfl rfl (pa_cons (Rh.pe_dfn D_parts hr (by decide) (by rfl) pass0 (pa_cons (pv 0) (pa_cons (pv 1) pa_nil))) (pa_cons (Rh.pe_dfn D_core hr (by decide) (by rfl) pass0 (pa_cons (pv 0) (pa_cons (pv 1) pa_nil))) pa_nil)) (by rfl))
      (pss_cons (ps_if (PW.pt (pw_or (pt_not (pt_val (pe_callB (Rh.k_isi K rfl) (by rfl) B.isinstance boot_isinstance (pa_cons (pv 5) (pa_cons (pe_bltn (v := .ty "list") (by rfl) B.list boot_list rfl) pa_nil))))) (pw_or (pt_cmpR (Rh.k_neD K rfl hr.units) (pv 5) (pv 3) (nomark _)) (pw_or1 (pt_not (pt_val (pe_callB (Rh.k_all K rfl (by rfl)) (by rfl) B.all boot_all (pa_cons (pe_lc (own := [("_law_part", 9)]) (g := (gName 9)) (tt := tYes)  (by rfl) sc__law_heap_right.nd (pi_list (pv 5)) (blkOk_by (N := ["_law_heap_here", "_law_length", "_law_kept", "_law_due", "_law_again", "_law_found", "_law_left", "_law_handed", "_law_back", "_law_part"]) (sc := defScope s__law_heap_right) (by decide +kernel)) (fun _ _ _ _ _ => (pg_name (i := 9) sc__law_heap_right.nd rfl (Or.inl rfl))) (fun _ _ _ _ _ => pts_nil) (fun _ _ _ _ _ => (Rh.pe_dfn D__law_is_heap hr (by decide) (by rfl) pass0 (pa_cons (pv 9) pa_nil)))) pa_nil))))))))
        (pss_one (ps_ret pe_bl)) pss_nil)
      (pss_cons (ps_if (pt_cmpR op_ne (pe_callB (Rh.k_sum K rfl (by rfl)) (by rfl) B.sum boot_sum (pa_cons (pe_lc (own := [("_law_part", 9)]) (g := (gName 9)) (tt := tYes)  (by rfl) sc__law_heap_right.nd (pi_list (pv 5)) (blkOk_by (N := ["_law_heap_here", "_law_length", "_law_kept", "_law_due", "_law_again", "_law_found", "_law_left", "_law_handed", "_law_back", "_law_part"]) (sc := defScope s__law_heap_right) (by decide +kernel)) (fun _ _ _ _ _ => (pg_name (i := 9) sc__law_heap_right.nd rfl (Or.inl rfl))) (fun _ _ _ _ _ => pts_nil) (fun _ _ _ _ _ => (pe_callB (Rh.k_sum K rfl (by rfl)) (by rfl) B.sum boot_sum (pa_cons (pv 9) pa_nil)))) pa_nil)) (Rh.pe_dfn D_rims_in hr (by decide) (by rfl) pass0 (pa_cons (pv 0) (pa_cons (pv 1) pa_nil))) (nomark _))
        (pss_one (ps_ret pe_bl)) pss_nil)
      (pss_cons (ps_setLc (i := 7) (own := [("_law_part", 9)]) (g := (gName 9)) (tt := tYes)  rfl sc__law_heap_right.nd rfl rfl (sw_true rfl rfl rfl (by decide +kernel)) (pi_list (pv 5)) (blkOk_by (N := ["_law_heap_here", "_law_length", "_law_kept", "_law_due", "_law_again", "_law_found", "_law_left", "_law_handed", "_law_back", "_law_part"]) (sc := defScope s__law_heap_right) (by decide +kernel)) (fun _ _ _ _ _ => (pg_name (i := 9) sc__law_heap_right.nd rfl (Or.inl rfl))) (fun _ _ _ _ _ => pts_nil) (fun _ _ _ _ _ => (pe_callTy (Rh.k_list K rfl) (by rfl) B.list boot_list (pa_cons (pv 9) pa_nil))))
      (pss_cons (ps_set (i := 8) sc__law_heap_right.nd rfl (Or.inl rfl) (Rh.pe_dfn D_joined hr (by decide) (by rfl) pass0 (pa_cons (pv 6) (pa_cons (pv 7) (pa_cons (pv 1) pa_nil)))))
      (pss_cons (ps_if (PW.pt (pw_or (pt_not (pt_val (Rh.pe_dfn D__law_is_heap hr (by decide) (by rfl) pass0 (pa_cons (pv 8) pa_nil)))) (pw_or (pt_cmpR (Rh.k_neD K rfl hr.units) (pv 8) (pv 0) (nomark _)) (pw_or1 (pt_cmpR (Rh.k_neD K rfl hr.units) (pv 7) (pv 3) (nomark _))))))
        (pss_one (ps_ret pe_bl)) pss_nil)
      (pss_cons (ps_expr (pe_bm PySem.F.plainAttrs_list PySem.F.slot_list_append PySem.F.type_list_append mt_append (pv 8) (pa_cons pe_int pa_nil)))
      (pss_cons (ps_expr (pe_bm PySem.F.plainAttrs_list PySem.F.slot_list_append PySem.F.type_list_append mt_append (pe_ix (Rh.k_ixl K rfl) (pv 5) pe_int (fun _ _ => rfl)) (pa_cons pe_int pa_nil)))
      (pss_cons (ps_if (pt_cmpR (Rh.k_neD K rfl hr.units) (pe_slice (Rh.k_sll K rfl) (pv 5) (po_some pe_int) po_none) (pe_slice (Rh.k_sll K rfl) (pv 3) (po_some pe_int) po_none) (nomark _))
        (pss_one (ps_ret pe_bl)) pss_nil)
      (pss_one (ps_expr (pe_bm PySem.F.plainAttrs_list PySem.F.slot_list_append PySem.F.type_list_append mt_append (pv 5) (pa_cons (pe_lst pa_nil) pa_nil))))))))))))))
      (pss_one (ps_ret (pe_cmpR (Rh.k_eqD K rfl hr.units) (pv 0) (pv 2) (nomark _)))))), ?_⟩
    show (_ : TS) _ [some (.ref a), some (.int i), none, none, none, none, none, none, none, none] H
    obtain ⟨m, hL1, hL2⟩ := hp
    have hL : 0 < i := by omega
    have hzl : ns.length ≤ 80 := m.len
    have hh : IsHeap ns ∧ Len ns := ⟨m.heap, m.len2⟩
    have hlog := small_log (show 0 ≤ i by omega) (show i < 1000000 by omega)
    have hP : IsHeap ns ∧ ns.length ≤ 25000 ∧ 1 ≤ i ∧ i ≤ 100 := ⟨m.heap, by omega, hL1, hL2⟩
    have hcl := coreOf_len (h := ns) (L := i)
    have hpn := padN_lt (h := ns) hL
    have hpl := partsOf_len (h := ns) hL
    have hph := partsOf_heap m.heap hL
    have J : JPre (coreOf ns i) (partsOf ns i) i := ⟨coreOf_heap hL ns, by omega, core_rims m.heap hL, fun p hp => ⟨(hph p hp).1, by have := (hph p hp).2; omega⟩, hpl, hL1, hL2⟩
    have hback := join_back hL m.heap
    have hsum := rims_parts hL m.heap
    refine q_parL_LL (el_listL (ev_var rfl) (sq_map hA)) (ell_parts (ea_two (ev_var rfl) (ev_var rfl)) hA hP) fun k0 d ds H1 hk0 e1 hk nd => ?_
    obtain ⟨_, _, _, _, _, d6, d7⟩ := nd
    refine q_forR1 (n := 2) (ea_one ev_c) (by decide) (fun k σ' H' => ∃ y4 y5 y6 y7 y8, σ' = [some (.ref a), some (.int i), some (.ref k0), some (.ref d), y4, y5, y6, y7, y8, none] ∧ Ex H1 H') (fun H2 e2 => ⟨none, none, none, none, none, rfl, e2⟩) (fun k σ' H' _ w => ?_) fun σ' H' w => ?_
    · obtain ⟨y4, y5, y6, y7, y8, rfl, e⟩ := w
      have e0 := e1.trans e
      have hA0 := e0 _ _ hA
      refine q_parLL_L (ell_parts (ea_two (ev_var rfl) (ev_var rfl)) hA0 hP) (el_call (ea_two (ev_var rfl) (ev_var rfl)) (go_Li (sq_map hA0) ⟨hh, hL1⟩ rfl)) fun pf bs pl H2 H3 nf hpl3 e3 h3 => ?_
      obtain ⟨n1, n2, n3, n4, n5, n6, n7⟩ := nf
      have f3 := e3 _ _ n6
      have g3 := n7.ex e3
      have sf3 := sl_of (K := K) f3 g3
      have e13 := (e.trans n5).trans e3
      have e03 := e1.trans e13
      have sd3 := sl_of (K := K) (e13 _ _ d6) (d7.ex e13)
      refine q_when (b := false) (et_is (et_or (et_not (et_B (ev_isiS (b := true) (ev_var rfl) sf3 (by decide +kernel)))) fun _ => et_or (et_test (ev_neSS (ev_var rfl) (ev_var rfl) sf3 sd3)) fun _ => et_not (et_B (ev_allN (bs := (partsOf ns i).map fun _ => true) (el_cS V.bl (fun _ => true) (ev_var rfl) sf3 (by omega) (fun _ => rfl) fun b p hpm hb => ev_call (ea_one (ev_var rfl)) (go_Lv (sq_map hb) (by have := (hph p hpm).2; show _ ≤ 30000; omega) rfl))))) (by rw [all_true]; simp)) (fun h => nomatch h) fun _ H4 e4 => ?_
      have e04 := e03.trans e4
      refine q_when (b := false) (et_is (et_test (ev_neI (ev_sumN (el_cS V.int List.sum (ev_var rfl) (sf3.ex e4) (by omega) (fun _ => rfl) fun b p hpm hb => ev_sumL (ev_var rfl) (sq_map hb))) (ev_call (ea_two (ev_var rfl) (ev_var rfl)) (go_Liv (sq_map (e04 _ _ hA)) ⟨hh, hL1, hlog⟩ rfl)))) (by rw [hsum]; simp)) (fun h => nomatch h) fun _ H5 e5 => ?_
      have e35 := e4.trans e5
      refine q_asgLLs (ell_copy (ev_var rfl) (sf3.ex e35) (by omega) (fun _ => rfl) fun b p hpm hb => el_listL (ev_var rfl) (sq_map hb)) fun pq cs H6 nq => ?_
      obtain ⟨q1, q2, q3, q4, q5, q6, q7⟩ := nq
      have e36 := e35.trans q5
      refine q_asgL (xs := ns.map V.int) (el_as (el_joined (ea_three (ev_var rfl) (ev_var rfl) (ev_var rfl)) (e36 _ _ h3) (sl_of q6 q7) J) (by rw [hback])) fun pb H7 hpb e7 h7 => ?_
      have e37 := e36.trans e7
      have e17 := e13.trans e37
      refine q_when (b := false) (et_is (et_or (et_not (et_B (ev_call (ea_one (ev_var rfl)) (go_Lv (sq_map h7) hh.2 rfl)))) fun _ => et_or (et_test (ev_neL (ev_var rfl) (ev_var rfl) (sq_map h7) (sq_map ((e1.trans e17) _ _ hA)))) fun _ => et_test (ev_neSS (ev_var rfl) (ev_var rfl) ((sl_of q6 q7).ex e7) (sl_of (e17 _ _ d6) (d7.ex e17)))) (by simp)) (fun h => nomatch h) fun _ H8 e8 => ?_
      have e38 := e37.trans e8
      refine q_appI (e8 _ _ h7) (ev_var rfl) ev_c (by omega) fun H9 e9 => ?_
      have e39 := e38.trans e9
      have eb6 : Ex H3 H6 := e36
      have npb : ∀ b ∈ bs, b ≠ pb := fun b hb z => by
        obtain ⟨o, ho⟩ := (g3.ex e36).std b hb
        rw [z, hpb] at ho
        cases ho
      have npf : pf ≠ pb := ne_of_none (e36 _ _ f3) hpb
      have fA : (upd H9 pb (.lst ((ns ++ [1]).map V.int))) pf = some (.lst (rs bs)) := by rw [upd_ne npf]; exact e39 _ _ f3
      have gA : LL (upd H9 pb (.lst ((ns ++ [1]).map V.int))) bs (partsOf ns i) := (g3.ex e39).mono fun b hb o ho => by rw [upd_ne (npb b hb)]; exact ho
      have eA : Ex H' (upd H9 pb (.lst ((ns ++ [1]).map V.int))) := ((n5.trans e3).trans e39).mut (fresh_back ((n5.trans e3).trans e36) hpb)
      generalize upd H9 pb (.lst ((ns ++ [1]).map V.int)) = HA at fA gA eA
      have hp0 : (partsOf ns i)[0]? = some (partsOf ns i)[0] := List.getElem?_eq_getElem (by omega)
      have hp0l := (hph _ (List.mem_of_getElem? hp0)).2
      generalize (partsOf ns i)[0] = p0 at hp0 hp0l
      obtain ⟨b0, hb0, hbo⟩ := gA.at hp0
      have hbm := List.mem_of_getElem? hb0
      refine q_appI hbo (ev_ixl (ev_var rfl) (sq_of fA) ev_c (atI_rs hb0)) ev_c (by omega) fun HB eB => ?_
      have fC : (upd HB b0 (.lst ((p0 ++ [1]).map V.int))) pf = some (.lst (rs bs)) := by rw [upd_ne fun z => n4 (by rw [z]; exact hbm)]; exact eB _ _ fA
      have gC := ((gA.ex eB).put n3 hb0 (q := p0 ++ [1])).drop 1
      have eC : Ex H' (upd HB b0 (.lst ((p0 ++ [1]).map V.int))) := (eA.trans eB).mut (n2 b0 hbm)
      have hdr : ((partsOf ns i).set 0 (p0 ++ [1])).drop 1 = (partsOf ns i).drop 1 := by cases partsOf ns i <;> rfl
      rw [hdr] at gC
      generalize upd HB b0 (.lst ((p0 ++ [1]).map V.int)) = HC at fC gC eC
      have e1C := e.trans eC
      refine q_when (b := false) (et_is (et_test (ev_neSl (el_dropR (ev_var rfl) (sq_of fC) ev_c) (el_dropR (ev_var rfl) (sq_of (e1C _ _ d6)) ev_c) gC ((d7.ex e1C).drop 1))) (by simp)) (fun h => nomatch h) fun _ HD eD => ?_
      refine s_appL (eD _ _ fC) (ev_var rfl) el_nil (by rw [rs_len, n7.len]; omega) fun pn HE hpn eE hE => ?_
      exact ⟨_, _, _, _, _, rfl, e.trans (((eC.trans eD).trans eE).mut n1)⟩
    · obtain ⟨y4, y5, y6, y7, y8, rfl, e⟩ := w
      refine s_ret (v := .bl true) (ev_is (ev_eqL (ev_var rfl) (ev_var rfl) (sq_map ((e1.trans e) _ _ hA)) (sq_map (e _ _ hk))) (by simp)) fun H5 e5 => RetV.go q ((e1.trans e).trans e5)
theorem ok__law_core {f : Addr} {fd : FuncData} (F : Fun K "_law_core" "_law_core" s__law_core f fd) (g : mg "_law_core" = some (.ref f)) (B : Bl mg)
    {f__law_marks : Addr} {fd__law_marks : FuncData} (D__law_marks : Dfn P w K mg base CX0 1 "_law_marks" f__law_marks fd__law_marks ["_law_heap_here"] (sp_marks_of K))
    {f__law_of : Addr} {fd__law_of : FuncData} (D__law_of : Dfn P w K mg base CX0 1 "_law_of" f__law_of fd__law_of ["_law_marks_here"] (sp_heap_of K)) :
    Dfn P w K mg base CX0 2 "_law_core" f fd ["_law_heap_here", "_law_length"] (sp_l_core K) := by
  refine ⟨F.ok sc__law_core (fun vs H Q E h => ?_) (fun cdv A outer s H vs Q E hr h => ?_), F.kp, F.binds (ps := ["_law_heap_here", "_law_length"]) fun _ _ _ _ _ _ us hl => match us, hl with | [_, _], _ => rfl, g⟩
  · obtain ⟨a, ns, i, rfl, hS, hp, q⟩ := h
    rfl
  · obtain ⟨a, ns, i, rfl, hS, hp, q⟩ := h
    refine ⟨_, (pss_cons (ps_par3 (i := 2) (j := 3) (l := 4) rfl sc__law_core.nd rfl rfl rfl (by decide) (by decide) (by decide) rfl rfl rfl (pa_cons pe_dnewK (pa_cons (pe_lst pa_nil) (pa_cons pe_int pa_nil))) (by rfl))
      (pss_cons (ps_for PassesOwn.never rfl (pi_list (Rh.pe_dfn D__law_marks hr (by decide) (by rfl) pass0 (pa_cons (pv 0) pa_nil))) (pg_name (i := 5) sc__law_core.nd rfl (Or.inl rfl))
        (pss_cons (ps_set (i := 6) sc__law_core.nd rfl (Or.inl rfl) (pe_op op_mod (pv 5) (pv 1)))
      (pss_cons (ps_set (i := 7) sc__law_core.nd rfl (Or.inl rfl) (pe_dget2 (hu_of hr) (pv 2) (pv 6) pe_int ⟨rfl, rfl, rfl, rfl⟩))
      (pss_cons (ps_dput (hu_of hr) (pv 2) (pv 6) (pe_op op_add (pv 7) pe_int) rfl)
      (pss_cons (ps_expr (pe_bm PySem.F.plainAttrs_list PySem.F.slot_list_append PySem.F.type_list_append mt_append (pv 3) (pa_cons (pe_op op_add (pv 6) (pe_op Rh.op_mulO (pv 1) (pv 7))) pa_nil)))
      (pss_one (ps_set (i := 4) sc__law_core.nd rfl (Or.inl rfl) (pe_op op_sub (pe_op op_add (pv 4) (pe_op op_fdivW (pv 5) (pv 1))) (pv 7)))))))))
      (pss_one (ps_ret (pe_tup (pa_cons (Rh.pe_dfn D__law_of hr (by decide) (by rfl) pass0 (pa_cons (pv 3) pa_nil)) (pa_cons (pv 4) pa_nil))))))), ?_⟩
    show (_ : TS) _ [some (.ref a), some (.int i), none, none, none, none, none, none] H
    obtain ⟨hl, hi, hw⟩ := hp
    have hl : ns.length ≤ 30000 := hl
    have hz : (marksOf ns).length = ns.length := marksOf_len ns
    refine fun d hd => ⟨Nat.zero_le _, fun f hf => ⟨_, _, _, rfl, ?_⟩⟩
    have h1 : (upd (upd H d (.dK [])) f (.lst [])) d = some (.dK []) := by rw [upd_ne (ne_of_none upd_same hf), upd_same]
    have h2 : (upd (upd H d (.dK [])) f (.lst [])) f = some (.lst (([] : List Int).map V.int)) := upd_same
    have e1 : Ex H (upd (upd H d (.dK [])) f (.lst [])) := (Ex.new hd).trans (Ex.new hf)
    have hf0 : H f = none := fresh_back (Ex.new hd) hf
    have hdf : d ≠ f := ne_of_none upd_same hf
    generalize upd (upd H d (.dK [])) f (.lst []) = H1 at h1 h2 e1
    refine q_forN (ns := marksOf ns) (el_call (ea_one (ev_var rfl)) (go_L (ex_l e1 hS) (show Len ns from hl) rfl)) (fun p pre σ' H' => ∃ y5 y6 y7 kvs, σ' = [some (.ref a), some (.int i), some (.ref d), some (.ref f), some (.int (manyOf pre i)), y5, y6, y7] ∧ Ex H H' ∧ H' p = some (.lst ((marksOf ns).map V.int)) ∧ H' d = some (.dK kvs) ∧ DTal kvs pre i ∧ H' f = some (.lst ((lowsOf pre i).map V.int)) ∧ p ≠ d ∧ p ≠ f) (fun p H2 hp e2 h3 => ⟨none, none, none, [], rfl, e1.trans e2, h3, e2 _ _ h1, DTal.nil i, e2 _ _ h2, (ne_of_none h1 hp).symm, (ne_of_none h2 hp).symm⟩) (fun p pre σ' H' w => ?_) (fun p pre n post σ' H' hn w => ?_) fun p σ' H' w => ?_
    · obtain ⟨_, _, _, _, _, _, h, _⟩ := w
      exact sq_map h
    · obtain ⟨y5, y6, y7, kvs, rfl, e, hp, hk, dt, hff, n1, n2⟩ := w
      have hpl : pre.length < (marksOf ns).length := by rw [hn]; simp
      refine q_asg (ev_mod (ev_var rfl) (ev_var rfl) hi) fun H3 e3 => ?_
      refine q_asg (ev_is (ev_dget (e3 _ _ hk) (ev_var rfl) (ev_var rfl) ev_c) (dt.get _)) fun H4 e4 => ?_
      refine q_dput (e4 _ _ (e3 _ _ hk)) (ev_add (ev_var rfl) ev_c) (ev_var rfl) (ev_var rfl) (by have := dt.len; omega) fun H5 e5 => ?_
      have e05 := (e3.trans e4).trans e5
      refine q_appI (ns := lowsOf pre i) (by rw [upd_ne hdf.symm]; exact e05 _ _ hff) (ev_var rfl) (ev_add (ev_var rfl) (ev_mulW (ev_var rfl) (ev_var rfl) (mul_smallR (by have := cnt_le pre i (n % i); omega)))) (by rw [lowsOf_len]; omega) fun H6 e6 => ?_
      refine s_asg (ev_sub (ev_add (ev_var rfl) (ev_div (ev_var rfl) (ev_var rfl) (div_ok hi hw))) (ev_var rfl)) fun H7 e7 => ?_
      have ed : Ex H (upd H5 d (.dK (putK kvs (.inl (n % i)) (.int (((cnt pre i (n % i) : Nat) : Int) + 1))))) := (e.trans e05).mut hd
      refine ⟨_, _, _, _, by rw [manyOf_snoc]; rfl, ((ed.trans e6).mut hf0).trans e7, e7 _ _ ?_, e7 _ _ ?_, dt.put, e7 _ _ ?_, n1, n2⟩
      · rw [upd_ne n2]
        refine e6 _ _ ?_
        rw [upd_ne n1]
        exact e05 _ _ hp
      · rw [upd_ne hdf]
        exact e6 _ _ upd_same
      · rw [upd_same, lowsOf_snoc]
    · obtain ⟨y5, y6, y7, kvs, rfl, e, hp, hk, dt, hff, n1, n2⟩ := w
      exact s_retC (cs := coreOf ns i) (el_call (ea_one (ev_var rfl)) (go_L (sq_map hff) (by show (lowsOf _ _).length ≤ 30000; rw [lowsOf_len]; omega) rfl)) (ev_var rfl) fun c p2 H3 hc hp2 e3 h3 h4 => q p2 c H3 (fresh_back e hp2) (fresh_back e hc) (e.trans e3) h3 h4
theorem ok__law_joined_right {f : Addr} {fd : FuncData} (F : Fun K "_law_joined_right" "_law_joined_right" s__law_joined_right f fd) (g : mg "_law_joined_right" = some (.ref f)) (B : Bl mg)
    {f_joined : Addr} {fd_joined : FuncData} (D_joined : Dfn P w K mg base CX0 4 "joined" f_joined fd_joined ["core", "parts", "length"] (sp_joined K))
    {f__law_is_heap : Addr} {fd__law_is_heap : FuncData} (D__law_is_heap : Dfn P w K mg base CX0 2 "_law_is_heap" f__law_is_heap fd__law_is_heap ["_law_found"] (sp_l_is_heap K))
    {f__law_parts : Addr} {fd__law_parts : FuncData} (D__law_parts : Dfn P w K mg base CX0 2 "_law_parts" f__law_parts fd__law_parts ["_law_heap_here", "_law_length"] sp_parts)
    {f__law_core : Addr} {fd__law_core : FuncData} (D__law_core : Dfn P w K mg base CX0 2 "_law_core" f__law_core fd__law_core ["_law_heap_here", "_law_length"] (sp_l_core K))
    {f_parts : Addr} {fd_parts : FuncData} (D_parts : Dfn P w K mg base CX0 4 "parts" f_parts fd_parts ["heap", "length"] sp_parts)
    {f_core : Addr} {fd_core : FuncData} (D_core : Dfn P w K mg base CX0 4 "core" f_core fd_core ["heap", "length"] (sp_core K)) :
    Dfn P w K mg base CX0 5 "_law_joined_right" f fd ["_law_left", "_law_some", "_law_length"] (sp_l_joined_right K) := by
  refine ⟨F.ok sc__law_joined_right (fun vs H Q E h => ?_) (fun cdv A outer s H vs Q E hr h => ?_), F.kp, F.binds (ps := ["_law_left", "_law_some", "_law_length"]) fun _ _ _ _ _ _ us hl => match us, hl with | [_, _, _], _ => rfl, g⟩
  · obtain ⟨a, b, ns, ps, i, rfl, hA, hB, hp, q⟩ := h
    rfl
  · obtain ⟨a, b, ns, ps, i, rfl, hA, hB, hp, q⟩ := h
    refine ⟨_, (pss_cons (ps_setLc (i := 3) (own := [("_law_part", 5)]) (g := (gName 5)) (tt := tYes)  rfl sc__law_joined_right.nd rfl rfl (sw_true rfl rfl rfl (by decide +kernel)) (pi_list (pv 1)) (blkOk_by (N := ["_law_left", "_law_some", "_law_length", "_law_kept", "_law_found", "_law_part"]) (sc := defScope s__law_joined_right) (by decide +kernel)) (fun _ _ _ _ _ => (pg_name (i := 5) sc__law_joined_right.nd rfl (Or.inl rfl))) (fun _ _ _ _ _ => pts_nil) (fun _ _ _ _ _ => (pe_callTy (Rh.k_list K rfl) (by rfl) B.list boot_list (pa_cons (pv 5) pa_nil))))
      (pss_cons (ps_set (i := 4) sc__law_joined_right.nd rfl (Or.inl rfl) (Rh.pe_dfn D_joined hr (by decide) (by rfl) pass0 (pa_cons (pv 0) (pa_cons (pv 1) (pa_cons (pv 2) pa_nil)))))
      (pss_cons (ps_if (PW.pt (pw_or (pt_cmpR (Rh.k_neD K rfl hr.units) (pv 1) (pv 3) (nomark _)) (pw_or (pt_not (pt_val (Rh.pe_dfn D__law_is_heap hr (by decide) (by rfl) pass0 (pa_cons (pv 4) pa_nil)))) (pw_or1 (pt_cmpR (Rh.k_neD K rfl hr.units) (Rh.pe_dfn D__law_parts hr (by decide) (by rfl) pass0 (pa_cons (pv 4) (pa_cons (pv 2) pa_nil))) (pv 1) (nomark _))))))
        (pss_one (ps_ret pe_bl)) pss_nil)
      (pss_cons (ps_if (pt_cmpR (Rh.k_neD K rfl hr.units) (Rh.pe_dfn D__law_core hr (by decide) (by rfl) pass0 (pa_cons (pv 4) (pa_cons (pv 2) pa_nil))) (pe_tup (pa_cons (pv 0) (pa_cons (pe_callB (Rh.k_sum K rfl (by rfl)) (by rfl) B.sum boot_sum (pa_cons (pe_lc (own := [("_law_part", 5)]) (g := (gName 5)) (tt := tYes)  (by rfl) sc__law_joined_right.nd (pi_list (pv 1)) (blkOk_by (N := ["_law_left", "_law_some", "_law_length", "_law_kept", "_law_found", "_law_part"]) (sc := defScope s__law_joined_right) (by decide +kernel)) (fun _ _ _ _ _ => (pg_name (i := 5) sc__law_joined_right.nd rfl (Or.inl rfl))) (fun _ _ _ _ _ => pts_nil) (fun _ _ _ _ _ => (pe_callB (Rh.k_sum K rfl (by rfl)) (by rfl) B.sum boot_sum (pa_cons (pv 5) pa_nil)))) pa_nil)) pa_nil))) (nomark _))
        (pss_one (ps_ret pe_bl)) pss_nil)
      (pss_one (ps_ret (pe_and (pe_cmpR (Rh.k_eqD K rfl hr.units) (Rh.pe_dfn D_parts hr (by decide) (by rfl) pass0 (pa_cons (pv 4) (pa_cons (pv 2) pa_nil))) (pv 1) (nomark _)) (pe_one (pe_cmpR (Rh.k_eqD K rfl hr.units) (Rh.pe_dfn D_core hr (by decide) (by rfl) pass0 (pa_cons (pv 4) (pa_cons (pv 2) pa_nil))) (pv 0) (nomark _)))))))))), ?_⟩
    show (_ : TS) _ [some (.ref a), some (.ref b), some (.int i), none, none, none] H
    have hL := hp.pos
    have hL1 := hp.lo
    have hL2 := hp.hi
    have hfew := hp.few
    obtain ⟨z1, z2, z3⟩ := hp.size
    obtain ⟨j, _⟩ := hp.join
    have hpl := hp.len
    have hlog := small_log (show 0 ≤ i by omega) (show i < 1000000 by omega)
    have hjl := j.len
    have hsum := rims_parts hL j.heap
    rw [j.parts] at hsum
    have hcore := j.core
    have hparts := j.parts
    have hjh := j.heap
    generalize hkk : joinM ns ps i = ks at hjl hsum hcore hparts hjh
    refine q_asgLLs (ell_copy (ev_var rfl) hB (by omega) (fun _ => rfl) fun b p hpm hb => el_listL (ev_var rfl) (sq_map hb)) fun pk cs H1 nk => ?_
    have e1 := nk.2.2.2.2.1
    refine q_asgL (xs := ks.map V.int) (el_as (el_joined (ea_three (ev_var rfl) (ev_var rfl) (ev_var rfl)) (e1 _ _ hA) (hB.ex e1) hp) (by rw [hkk])) fun pf H2 hpf e2 h2 => ?_
    have e02 := e1.trans e2
    have hP : IsHeap ks ∧ ks.length ≤ 25000 ∧ 1 ≤ i ∧ i ≤ 100 := ⟨hjh, by omega, hL1, hL2⟩
    have hlen : Len ks := by show _ ≤ 30000; omega
    refine q_when (b := false) (et_is (et_or (et_test (ev_neSS (ev_var rfl) (ev_var rfl) (hB.ex e02) (nk.sl.ex e2))) fun _ => et_or (et_not (et_B (ev_call (ea_one (ev_var rfl)) (go_Lv (sq_map h2) hlen rfl)))) fun _ => et_test (ev_neNS (ell_parts (ea_two (ev_var rfl) (ev_var rfl)) h2 hP) (ev_var rfl) (hB.ex e02))) (by rw [hparts]; simp)) (fun h => nomatch h) fun _ H3 e3 => ?_
    have e03 := e02.trans e3
    have h3 := e3 _ _ h2
    refine q_when (b := false) (et_is (et_test (ev_neCU (ec_core (ev_var rfl) (sq_map h3) (ev_var rfl) ⟨hlen, hL, hlog⟩) (eu_tup (ea_two (ev_var rfl) (ev_sumN (el_cS V.int List.sum (ev_var rfl) (hB.ex e03) (by omega) (fun _ => rfl) fun b p hpm hb => ev_sumL (ev_var rfl) (sq_map hb)))) (Nat.le_of_ble_eq_true rfl)) (sq_map (e03 _ _ hA)))) (by rw [hsum, hcore]; simp)) (fun h => nomatch h) fun _ H4 e4 => ?_
    have e04 := e03.trans e4
    have h4 := e4 _ _ h3
    refine s_ret (v := .bl true) (ev_is (ev_andV (ev_eqNS (ell_parts (ea_two (ev_var rfl) (ev_var rfl)) h4 hP) (ev_var rfl) (hB.ex e04)) fun _ => ev_eqN (el_call (ea_two (ev_var rfl) (ev_var rfl)) (go_Li (sq_map h4) ⟨⟨hjh, hlen⟩, hL1⟩ rfl)) (ev_var rfl) (sq_map (e04 _ _ hA))) (by rw [hparts, hcore]; simp)) fun H5 e5 => RetV.go q (e04.trans e5)
theorem ok_law {f : Addr} {fd : FuncData} (F : Fun K "law" "law" s_law f fd) (g : mg "law" = some (.ref f)) (B : Bl mg)
    {f__law_draw : Addr} {fd__law_draw : FuncData} (D__law_draw : Dfn P w K mg base CX0 1 "_law_draw" f__law_draw fd__law_draw ["_law_cell", "_law_k", "_law_many"] sp_l_draw)
    {f__law_cell_at : Addr} {fd__law_cell_at : FuncData} (D__law_cell_at : Dfn P w K mg base CX0 1 "_law_cell_at" f__law_cell_at fd__law_cell_at ["_law_script", "_law_k"] (sp_l_cell_at K))
    {f__law_heap : Addr} {fd__law_heap : FuncData} (D__law_heap : Dfn P w K mg base CX0 3 "_law_heap" f__law_heap fd__law_heap ["_law_script", "_law_by"] (sp_l_heap K))
    {f__law_small : Addr} {fd__law_small : FuncData} (D__law_small : Dfn P w K mg base CX0 3 "_law_small" f__law_small fd__law_small ["_law_script", "_law_by"] (sp_l_small K))
    {f__law_heap_right : Addr} {fd__law_heap_right : FuncData} (D__law_heap_right : Dfn P w K mg base CX0 5 "_law_heap_right" f__law_heap_right fd__law_heap_right ["_law_heap_here", "_law_length"] sp_l_heap_right)
    {f__law_core : Addr} {fd__law_core : FuncData} (D__law_core : Dfn P w K mg base CX0 2 "_law_core" f__law_core fd__law_core ["_law_heap_here", "_law_length"] (sp_l_core K))
    {f__law_joined_right : Addr} {fd__law_joined_right : FuncData} (D__law_joined_right : Dfn P w K mg base CX0 5 "_law_joined_right" f__law_joined_right fd__law_joined_right ["_law_left", "_law_some", "_law_length"] (sp_l_joined_right K))
    {f_joined : Addr} {fd_joined : FuncData} (D_joined : Dfn P w K mg base CX0 4 "joined" f_joined fd_joined ["core", "parts", "length"] (sp_joined K))
    {f_parts : Addr} {fd_parts : FuncData} (D_parts : Dfn P w K mg base CX0 4 "parts" f_parts fd_parts ["heap", "length"] sp_parts) :
    Dfn P w K mg base CX0 6 "law" f fd ["_law_script"] (sp_law K) := by
  refine ⟨F.ok sc_law (fun vs H Q E h => ?_) (fun cdv A outer s H vs Q E hr h => ?_), F.kp, F.binds (ps := ["_law_script"]) fun _ _ _ _ _ _ us hl => match us, hl with | [_], _ => rfl, g⟩
  · obtain ⟨a, ns, rfl, hS, hp, q⟩ := h
    rfl
  · obtain ⟨a, ns, rfl, hS, hp, q⟩ := h
    refine ⟨_, (pss_cons (ps_set (i := 1) sc_law.nd rfl (Or.inl rfl) (pe_op op_add pe_int (Rh.pe_dfn D__law_draw hr (by decide) (by rfl) pass0 (pa_cons (Rh.pe_dfn D__law_cell_at hr (by decide) (by rfl) pass0 (pa_cons (pv 0) (pa_cons pe_int pa_nil))) (pa_cons pe_int (pa_cons pe_int pa_nil))))))
      (pss_cons (ps_for PassesOwn.never rfl (pi_tup (pe_tup (pa_cons (Rh.pe_dfn D__law_heap hr (by decide) (by rfl) pass0 (pa_cons (pv 0) (pa_cons pe_int pa_nil))) (pa_cons (Rh.pe_dfn D__law_small hr (by decide) (by rfl) pass0 (pa_cons (pv 0) (pa_cons pe_int pa_nil))) pa_nil)))) (pg_name (i := 2) sc_law.nd rfl (Or.inl rfl))
        (pss_one (ps_for PassesOwn.never rfl (pi_tup (pe_tup (pa_cons pe_int (pa_cons (pv 1) (pa_cons (pe_op op_add pe_int (Rh.pe_dfn D__law_draw hr (by decide) (by rfl) pass0 (pa_cons (Rh.pe_dfn D__law_cell_at hr (by decide) (by rfl) pass0 (pa_cons (pv 0) (pa_cons pe_int pa_nil))) (pa_cons pe_int (pa_cons pe_int pa_nil))))) pa_nil))))) (pg_name (i := 3) sc_law.nd rfl (Or.inl rfl))
        (pss_one (ps_if (pt_not (pt_val (Rh.pe_dfn D__law_heap_right hr (by decide) (by rfl) pass0 (pa_cons (pv 2) (pa_cons (pv 3) pa_nil)))))
        (pss_one (ps_ret pe_bl)) pss_nil)))))
      (pss_cons (ps_par (i := 4) (j := 5) rfl sc_law.nd rfl rfl (by decide) rfl rfl (pa_cons (pe_ix (Rh.k_ixt K rfl) (Rh.pe_dfn D__law_core hr (by decide) (by rfl) pass0 (pa_cons (Rh.pe_dfn D__law_heap hr (by decide) (by rfl) pass0 (pa_cons (pv 0) (pa_cons pe_int pa_nil))) (pa_cons (pv 1) pa_nil))) pe_int (fun _ _ => rfl)) (pa_cons (pe_lst pa_nil) pa_nil)) (by rfl))
      (pss_cons (ps_for PassesOwn.never rfl (pi_range1 (by rfl) B.range (pa_cons (pv 1) pa_nil)) (pg_name (i := 6) sc_law.nd rfl (Or.inl rfl))
        (pss_cons (ps_set (i := 7) sc_law.nd rfl (Or.inl rfl) (Rh.pe_dfn D__law_heap hr (by decide) (by rfl) pass0 (pa_cons (Rh.pe_sliceS (pv 0) (pv 6) (pv 1)) (pa_cons (pe_op op_add (pv 6) pe_int) pa_nil))))
      (pss_one (ps_expr (pe_bm PySem.F.plainAttrs_list PySem.F.slot_list_append PySem.F.type_list_append mt_append (pv 5) (pa_cons (pe_ifExp (pt_cmpR op_gt (Rh.pe_dfn D__law_draw hr (by decide) (by rfl) pass0 (pa_cons (Rh.pe_dfn D__law_cell_at hr (by decide) (by rfl) pass0 (pa_cons (pv 0) (pa_cons (pv 6) pa_nil))) (pa_cons pe_int (pa_cons pe_int pa_nil)))) pe_int (nomark _)) (pv 7) (pe_lst pa_nil)) pa_nil))))))
      (pss_cons (ps_if (PW.pt (pw_or (pt_not (pt_val (Rh.pe_dfn D__law_joined_right hr (by decide) (by rfl) pass0 (pa_cons (pv 4) (pa_cons (pv 5) (pa_cons (pv 1) pa_nil)))))) (pw_or1 (pt_not (pt_val (Rh.pe_dfn D__law_joined_right hr (by decide) (by rfl) pass0 (pa_cons (pe_lst pa_nil) (pa_cons (pv 5) (pa_cons (pv 1) pa_nil)))))))))
        (pss_one (ps_ret pe_bl)) pss_nil)
      (pss_cons (ps_set (i := 8) sc_law.nd rfl (Or.inl rfl) (pe_op op_add pe_int (Rh.pe_dfn D__law_draw hr (by decide) (by rfl) pass0 (pa_cons (Rh.pe_dfn D__law_cell_at hr (by decide) (by rfl) pass0 (pa_cons (pv 0) (pa_cons pe_int pa_nil))) (pa_cons pe_int (pa_cons pe_int pa_nil))))))
      (pss_cons (ps_setLc (i := 5) (own := [("_law_rest", 6)]) (g := (gName 6)) (tt := tYes)  rfl sc_law.nd rfl rfl (sw_true rfl rfl rfl (by decide +kernel)) (pi_range1 (by rfl) B.range (pa_cons (pv 8) pa_nil)) (blkOk_by (N := ["_law_script", "_law_few", "_law_heap_here", "_law_length", "_law_left", "_law_some", "_law_rest", "_law_part", "_law_wide", "_law_k"]) (sc := defScope s_law) (by decide +kernel)) (fun _ _ _ _ _ => (pg_name (i := 6) sc_law.nd rfl (Or.inl rfl))) (fun _ _ _ _ _ => pts_nil) (fun _ _ _ _ _ => (pe_lst pa_nil)))
      (pss_cons (ps_for PassesOwn.never rfl (pi_range1 (by rfl) B.range (pa_cons pe_int pa_nil)) (pg_name (i := 9) sc_law.nd rfl (Or.inl rfl))
        (pss_one (ps_asg (Rh.pe_dfn D__law_heap hr (by decide) (by rfl) pass0 (pa_cons (pe_slice (Rh.k_sll K rfl) (pv 0) (po_some (pv 9)) (po_some pe_int)) (pa_cons (pv 9) pa_nil))) (pg_sub (pv 5) (Rh.pe_dfn D__law_draw hr (by decide) (by rfl) pass0 (pa_cons (Rh.pe_dfn D__law_cell_at hr (by decide) (by rfl) pass0 (pa_cons (pv 0) (pa_cons (pv 9) pa_nil))) (pa_cons (pe_op op_add (pv 9) pe_int) (pa_cons (pv 8) pa_nil)))) set_list (fun _ => rfl)))))
      (pss_cons (ps_if (pt_not (pt_val (Rh.pe_dfn D__law_joined_right hr (by decide) (by rfl) pass0 (pa_cons (pe_ix (Rh.k_ixt K rfl) (Rh.pe_dfn D__law_core hr (by decide) (by rfl) pass0 (pa_cons (pe_slice (Rh.k_sll K rfl) (Rh.pe_dfn D__law_heap hr (by decide) (by rfl) pass0 (pa_cons (pv 0) (pa_cons pe_int pa_nil))) po_none (po_some pe_int)) (pa_cons (pv 8) pa_nil))) pe_int (fun _ _ => rfl)) (pa_cons (pv 5) (pa_cons (pv 8) pa_nil))))))
        (pss_one (ps_ret pe_bl)) pss_nil)
      (pss_one (ps_ret (pe_and (pe_cmpR (Rh.k_eqD K rfl hr.units) (Rh.pe_dfn D_joined hr (by decide) (by rfl) pass0 (pa_cons (pe_lst pa_nil) (pa_cons (pe_lst (pa_cons (pe_lst pa_nil) (pa_cons (pe_lst (pa_cons pe_int pa_nil)) pa_nil))) (pa_cons pe_int pa_nil)))) (pe_lst (pa_cons pe_int pa_nil)) (nomark _)) (pe_and (pe_cmpR (Rh.k_eqD K rfl hr.units) (Rh.pe_dfn D_joined hr (by decide) (by rfl) pass0 (pa_cons (pe_lst pa_nil) (pa_cons (pe_lst (pa_cons (pe_lst (pa_cons pe_int pa_nil)) (pa_cons (pe_lst pa_nil) pa_nil))) (pa_cons pe_int pa_nil)))) (pe_lst (pa_cons pe_int (pa_cons pe_int pa_nil))) (nomark _)) (pe_one (pe_cmpR (Rh.k_eqD K rfl hr.units) (Rh.pe_dfn D_parts hr (by decide) (by rfl) pass0 (pa_cons (pe_lst pa_nil) (pa_cons pe_int pa_nil))) (pe_lst (pa_cons (pe_lst pa_nil) (pa_cons (pe_lst pa_nil) (pa_cons (pe_lst pa_nil) pa_nil)))) (nomark _)))))))))))))))), ?_⟩
    show (_ : TS) _ [some (.ref a), none, none, none, none, none, none, none, none, none] H
    obtain ⟨hB, hl⟩ := hp
    have hln : Len ns := by show _ ≤ 30000; omega
    have hpre : Bits ns ∧ Len ns := ⟨hB, hln⟩
    refine q_asg (ev_add ev_c (ev_call (ea_three (ev_call (ea_two (ev_var rfl) ev_c) (go_Liv hS ⟨by decide, hln⟩ rfl)) ev_c ev_c) (go_iii (show (0 : Int) < 9 by decide) rfl))) fun H1 e1 => ?_
    have hF := draw_ok (cellAt ns 3) 4 (show (0 : Int) < 9 by decide)
    obtain ⟨F, hFe⟩ : ∃ F : Int, F = 1 + draw (cellAt ns 3) 4 9 := ⟨_, rfl⟩
    rw [← hFe]
    have hF2 : 1 ≤ F ∧ F ≤ 9 := by omega
    clear hFe hF
    have s1 := ex_l e1 hS
    refine q_forAN (Good := Made) (ean_two (en_new (el_call (ea_two (ev_var rfl) ev_c) (go_Li s1 ⟨hpre, by decide⟩ rfl)) (heapM_made _ _)) (en_new (el_call (ea_two (ev_var rfl) ev_c) (go_Li s1 ⟨hpre, by decide⟩ rfl)) (smallM_made _ _))) (fun H0 σ' H' => ∃ y2 y3, σ' = [some (.ref a), some (.int F), y2, y3, none, none, none, none, none, none] ∧ Ex H0 H') (fun H0 σ' H' w => by obtain ⟨_, _, _, e⟩ := w; exact e) (fun H1 e1 => ⟨none, none, rfl, Ex.refl H1⟩) (fun H0 b hs σ' H' m e0 hb w => ?_) fun H0 σ' H' e0 w => ?_
    · obtain ⟨y2, y3, rfl, e⟩ := w
      have s0 := ex_l (e0.trans e) s1
      have hb0 := e _ _ hb
      refine s_forU (eu_tup (ea_three ev_c (ev_var rfl) (ev_add ev_c (ev_call (ea_three (ev_call (ea_two (ev_var rfl) ev_c) (go_Liv s0 ⟨by decide, hln⟩ rfl)) ev_c ev_c) (go_iii (show (0 : Int) < 100 by decide) rfl)))) (Nat.le_of_ble_eq_true rfl)) (fun H1 σ' H2 => ∃ y3, σ' = [some (.ref a), some (.int F), some (.ref b), y3, none, none, none, none, none, none] ∧ Ex H1 H2) (fun H1 σ' H2 w => by obtain ⟨_, _, e⟩ := w; exact e) (fun H1 e1 => ⟨_, rfl, Ex.refl H1⟩) (fun H1 v σ' H2 hv e1 w => ?_) fun H1 σ' H2 e1 w => ?_
      · obtain ⟨y3, rfl, e2⟩ := w
        have d1 := draw_ok (cellAt ns 4) 5 (show (0 : Int) < 100 by decide)
        obtain ⟨L, rfl, hL⟩ : ∃ L : Int, v = .int L ∧ 1 ≤ L ∧ L ≤ 100 := by
          simp only [List.mem_cons, List.not_mem_nil, or_false] at hv
          rcases hv with rfl | rfl | rfl
          · exact ⟨_, rfl, by decide⟩
          · exact ⟨_, rfl, by omega, by omega⟩
          · exact ⟨_, rfl, by omega, by omega⟩
        refine s_when (b := false) (et_is (et_not (et_B (ev_call (ea_two (ev_var rfl) (ev_var rfl)) (go_heap_right ((e1.trans e2) _ _ hb0) ⟨m, hL⟩)))) rfl) (fun h => nomatch h) fun _ H3 e3 => ?_
        exact ⟨_, rfl, e2.trans e3⟩
      · obtain ⟨y3, rfl, e2⟩ := w
        exact ⟨_, _, rfl, (e.trans e1).trans e2⟩
    · obtain ⟨y2, y3, rfl, e⟩ := w
      have s0 := ex_l (e0.trans e) s1
      have hlF := small_log (show 0 ≤ F by omega) (show F < 1000000 by omega)
      have m0 := heapM_made ns 0
      have m0l : (heapM ns 0).length ≤ 80 := m0.len
      have hc0 := coreOf_len (h := heapM ns 0) (L := F)
      refine q_parLL (el_first (ec_coreN (el_call (ea_two (ev_var rfl) ev_c) (go_Li s0 ⟨hpre, by decide⟩ rfl)) (ev_var rfl) ⟨m0.len2, by omega, hlF⟩)) el_nil fun pl ps0 H2 hpl hps0 nlp e2 h2 h3 => ?_
      refine q_forR1 (n := F) (ea_one (ev_var rfl)) (by omega) (fun k σ' H3 => ∃ y6 y7 bs ps, σ' = [some (.ref a), some (.int F), y2, y3, some (.ref pl), some (.ref ps0), y6, y7, none, none] ∧ Ex H' H3 ∧ H3 pl = some (.lst ((coreOf (heapM ns 0) F).map V.int)) ∧ H3 ps0 = some (.lst (rs bs)) ∧ LL H3 bs ps ∧ ps0 ∉ bs ∧ ps.length = k ∧ ∀ p ∈ ps, IsHeap p ∧ p.length ≤ 200) (fun H3 e3 => ⟨none, none, [], [], rfl, e2.trans e3, e3 _ _ h2, e3 _ _ h3, .nil, (fun h => by cases h), rfl, (fun p h => by cases h)⟩) (fun k σ' H3 hk w => ?_) fun σ' H3 w => ?_
      · obtain ⟨y6, y7, bs, ps, rfl, e3, hl3, hs3, hll, hnb, hpk, hph⟩ := w
        have hk : (k : Int) < F := hk
        have s3 := ex_l e3 s0
        refine en_heapS (en_sliceS (ev_var rfl) s3 (ev_var rfl) (ev_var rfl) (by omega)) (ev_add (ev_var rfl) ev_c) hpre (by omega) fun pp ms H4 hpp e4 h4 mm => ?_
        have s4 := ex_l e4 s3
        have hml : ms.length ≤ 80 := mm.len
        have hbl := hll.len
        refine s_appIf (b := decide (0 < draw (cellAt ns k) 3 4)) (e4 _ _ hs3) (ev_var rfl) (et_test (ev_gt (ev_call (ea_three (ev_call (ea_two (ev_var rfl) (ev_var rfl)) (go_Liv s4 ⟨by show (0 : Int) ≤ _; omega, hln⟩ rfl)) ev_c ev_c) (go_iii (show (0 : Int) < 4 by decide) rfl)) ev_c)) (ev_var rfl) (ne_of_none hs3 hpp).symm h4 (by rw [rs_len]; omega) fun p qs H5 e5 hp5 h5 hq => ?_
        have e05 : Ex H' (upd H5 ps0 (.lst (rs bs ++ [.ref p]))) := ((e3.trans e4).trans e5).mut hps0
        refine ⟨_, _, bs ++ [p], ps ++ [qs], rfl, e05, ?_, ?_, sl_put (hll.ex (e4.trans e5)) hnb hp5 h5 _, ?_, by rw [List.length_append, hpk]; rfl, fun p2 hp2 => ?_⟩
        · rw [upd_ne nlp]
          exact (e4.trans e5) _ _ hl3
        · rw [upd_same]
          unfold rs
          rw [List.map_append]
          rfl
        · intro h
          rcases List.mem_append.mp h with h | h
          · exact hnb h
          · have : ps0 = p := by simpa using h
            exact hp5 this.symm
        · rcases List.mem_append.mp hp2 with h | h
          · exact hph p2 h
          · have : p2 = qs := by simpa using h
            rw [this]
            rcases hq with rfl | rfl
            · exact ⟨mm.heap, by omega⟩
            · exact ⟨isHeap_nil, Nat.zero_le _⟩
      · obtain ⟨y6, y7, bs, ps, rfl, e3, hl3, hs3, hll, hnb, hpk, hph⟩ := w
        have hFp : 0 < F := by omega
        have J1 : JPre (coreOf (heapM ns 0) F) ps F := ⟨coreOf_heap hFp _, by omega, core_rims m0.heap hFp, hph, by omega, hF2.1, by omega⟩
        have J2 : JPre [] ps F := ⟨isHeap_nil, Nat.zero_le _, rfl, hph, by omega, hF2.1, by omega⟩
        have sp3 := sl_of (K := K) hs3 hll
        refine q_when (b := false) (et_is (et_or (et_not (et_B (ev_call (ea_three (ev_var rfl) (ev_var rfl) (ev_var rfl)) (go_joined_right hl3 sp3 J1)))) fun _ => et_not (et_B (ev_joined_rightN (ns := []) el_nil (ev_var rfl) (ev_var rfl) sp3 J2))) rfl) (fun h => nomatch h) fun _ H4 e4 => ?_
        have s4 := ex_l (e3.trans e4) s0
        refine q_asg (ev_add ev_c (ev_call (ea_three (ev_call (ea_two (ev_var rfl) ev_c) (go_Liv s4 ⟨by decide, hln⟩ rfl)) ev_c ev_c) (go_iii (show (0 : Int) < 91 by decide) rfl))) fun H5 e5 => ?_
        have hW := draw_ok (cellAt ns 5) 6 (show (0 : Int) < 91 by decide)
        obtain ⟨W, hWe⟩ : ∃ W : Int, W = 10 + draw (cellAt ns 5) 6 91 := ⟨_, rfl⟩
        rw [← hWe]
        have hW2 : 10 ≤ W ∧ W ≤ 100 := by omega
        clear hWe hW
        have s5 := ex_l e5 s4
        refine q_asgLLs (ell_cR (fun _ => []) (ea_one (ev_var rfl)) (by omega) (fun _ => rfl) fun k hk => el_nil) fun pw bs2 H6 nw => ?_
        obtain ⟨w1, w2, w3, w4, w5, w6, w7⟩ := nw
        refine q_forR1 (n := 3) (ea_one ev_c) (by decide) (fun k σ' H7 => ∃ y6 y9 cs qs, σ' = [some (.ref a), some (.int F), y2, y3, some (.ref pl), some (.ref pw), y6, y7, some (.int W), y9] ∧ Ex H5 H7 ∧ H7 pw = some (.lst (rs cs)) ∧ LL H7 cs qs ∧ pw ∉ cs ∧ ((qs.length : Nat) : Int) = W ∧ ∀ p ∈ qs, IsHeap p ∧ p.length ≤ 200) (fun H7 e7 => ⟨_, _, bs2, _, rfl, w5.trans e7, e7 _ _ w6, w7.ex e7, w4, by rw [List.length_map, List.length_range]; omega, fun p hp => by
          obtain ⟨_, _, rfl⟩ := List.mem_map.mp hp
          exact ⟨isHeap_nil, Nat.zero_le _⟩⟩) (fun k σ' H7 hk w => ?_) fun σ' H7 w => ?_
        · obtain ⟨y6, y9, cs, qs, rfl, e7, h7, hll7, hnc, hql, hqh⟩ := w
          have hk : (k : Int) < 3 := hk
          have s7 := ex_l e7 s5
          have hcl := hll7.len
          have hdr := draw_ok (cellAt ns k) ((k : Int) + 4) (show (0 : Int) < W by omega)
          obtain ⟨j, hj⟩ : ∃ j : Nat, draw (cellAt ns k) ((k : Int) + 4) W = (j : Nat) := ⟨(draw (cellAt ns k) ((k : Int) + 4) W).toNat, by omega⟩
          obtain ⟨ms, hms, hm1, hm2⟩ := cut_map ns (some (k : Int)) (some 4)
          have mm := heapM_made ms (k : Int)
          have hml : (heapM ms (k : Int)).length ≤ 80 := mm.len
          refine s_setLN (j := j) h7 (el_cLi (el_as (el_sl (ev_var rfl) (eo_some (ev_var rfl)) (eo_some ev_c) s7) hms) (ev_var rfl) ⟨⟨fun z hz => hB z (hm1 z hz), by show _ ≤ 30000; omega⟩, by omega⟩ rfl) (ev_var rfl) (ev_is (ev_call (ea_three (ev_call (ea_two (ev_var rfl) (ev_var rfl)) (go_Liv s7 ⟨by show (0 : Int) ≤ _; omega, hln⟩ rfl)) (ev_add (ev_var rfl) ev_c) (ev_var rfl)) (go_iii (show (0 : Int) < W by omega) rfl)) (by rw [hj])) (by rw [rs_len]; omega) fun p H8 hp8 e8 h8 => ?_
          have np : p ≠ pw := (ne_of_none h7 hp8).symm
          refine ⟨_, _, cs.set j p, qs.set j (heapM ms (k : Int)), rfl, (e7.trans e8).mut w1, ?_, sl_swap (hll7.ex e8) hnc np h8 _, fun h => ?_, by rw [List.length_set]; exact hql, fun p2 hp2 => ?_⟩
          · rw [upd_same]
            unfold rs
            rw [List.map_set]
          · rcases List.mem_or_eq_of_mem_set h with h | h
            · exact hnc h
            · exact np h.symm
          · rcases List.mem_or_eq_of_mem_set hp2 with h | h
            · exact hqh p2 h
            · rw [h]
              exact ⟨mm.heap, by omega⟩
        · obtain ⟨y6, y9, cs, qs, rfl, e7, h7, hll7, hnc, hql, hqh⟩ := w
          have s7 := ex_l e7 s5
          have hWp : 0 < W := by omega
          have hlW := small_log (show 0 ≤ W by omega) (show W < 1000000 by omega)
          have ht : IsHeap ((heapM ns 0).take 20) := ⟨fun x hx => m0.heap.pos x (List.mem_of_mem_take hx), m0.heap.falls.sublist (List.take_sublist _ _)⟩
          have htl : ((heapM ns 0).take 20).length ≤ 20 := by rw [List.length_take]; omega
          have hcw := coreOf_len (h := (heapM ns 0).take 20) (L := W)
          have J3 : JPre (coreOf ((heapM ns 0).take 20) W) qs W := ⟨coreOf_heap hWp _, by omega, core_rims ht hWp, hqh, hql, by omega, hW2.2⟩
          refine q_when (b := false) (et_is (et_not (et_B (ev_joined_rightN (el_first (ec_coreN (el_takeN (k := 20) (el_call (ea_two (ev_var rfl) ev_c) (go_Li s7 ⟨hpre, by decide⟩ rfl)) ev_c) (ev_var rfl) ⟨by show _ ≤ 30000; omega, hWp, hlW⟩)) (ev_var rfl) (ev_var rfl) (sl_of h7 hll7) J3))) rfl) (fun h => nomatch h) fun _ H8 e8 => ?_
          have i1 : IsHeap [1] := isHeap_dec (by decide) (by decide)
          have l1 : ∀ {H : Hp} {σ : L2.St}, EvL (tLst (tCons (tC (.int 1)) tNil)) σ H (([1] : List Int).map V.int) := el_lst (ea_one ev_c) (Nat.le_of_ble_eq_true rfl)
          have l2 : ∀ {H : Hp} {σ : L2.St}, EvL (tLst (tCons (tC (.int 2)) tNil)) σ H (([2] : List Int).map V.int) := el_lst (ea_one ev_c) (Nat.le_of_ble_eq_true rfl)
          have l11 : ∀ {H : Hp} {σ : L2.St}, EvL (tLst (tCons (tC (.int 1)) (tCons (tC (.int 1)) tNil))) σ H (([1, 1] : List Int).map V.int) := el_lst (ea_two ev_c ev_c) (Nat.le_of_ble_eq_true rfl)
          have hall : ∀ p : List Int, (p = [] ∨ p = [1]) → IsHeap p ∧ p.length ≤ 200 := fun p h => by
            rcases h with rfl | rfl
            · exact ⟨isHeap_nil, by decide⟩
            · exact ⟨i1, by decide⟩
          have K1 : JPre [] [[], [1]] 2 := ⟨isHeap_nil, by decide, rfl, fun p h => hall p (by simpa using h), rfl, by decide, by decide⟩
          have K2 : JPre [] [[1], []] 2 := ⟨isHeap_nil, by decide, rfl, fun p h => hall p (Or.symm (by simpa using h)), rfl, by decide, by decide⟩
          refine s_ret (v := .bl true) (ev_is (ev_andV (ev_eqNN (el_joinedN (ns := []) el_nil (ell_two (p1 := []) el_nil l1) ev_c K1) l2) fun _ => ev_andV (ev_eqNN (el_joinedN (ns := []) el_nil (ell_two (p2 := []) l1 el_nil) ev_c K2) l11) fun _ => ev_eqLLN (ell_partsN (ns := []) el_nil ev_c ⟨isHeap_nil, by decide, by decide, by decide⟩) (ell_three (p1 := []) (p2 := []) (p3 := []) el_nil el_nil el_nil)) ?_) fun H9 e9 => q H9
          unfold joinM partsOf partOf
          simp only [heapOf_run]
          decide
end
end Rh

namespace Rh
open PySem PySem.Spec PyProof.Rows L2 Evl
theorem all_mk {l : PySem.W.OpenLaw} {w : World} {K : PySem.W.Frag} {h : Heap} {mg : Str → Option Value} {fa : Addr} (X : K.In h) (G : h.Ns mainGlobals mg) (hfa : mg "law" = some (.ref fa))
    (E__law_draw : Facts K "_law_draw" s__law_draw)
    (E__law_cell_at : Facts K "_law_cell_at" s__law_cell_at)
    (E__law_value : Facts K "_law_value" s__law_value)
    (E__law_heap : Facts K "_law_heap" s__law_heap)
    (E__law_small : Facts K "_law_small" s__law_small)
    (E__law_marks : Facts K "_law_marks" s__law_marks)
    (E__law_of : Facts K "_law_of" s__law_of)
    (E__law_parts : Facts K "_law_parts" s__law_parts)
    (E_is_whole : Facts K "is_whole" s_is_whole)
    (E_is_heap : Facts K "is_heap" s_is_heap)
    (E_check_heap : Facts K "check_heap" s_check_heap)
    (E_check_length : Facts K "check_length" s_check_length)
    (E_check_few : Facts K "check_few" s_check_few)
    (E_marks_of : Facts K "marks_of" s_marks_of)
    (E_heap_of : Facts K "heap_of" s_heap_of)
    (E_parts : Facts K "parts" s_parts)
    (E_counts_of : Facts K "counts_of" s_counts_of)
    (E_core : Facts K "core" s_core)
    (E__law_whole : Facts K "_law_whole" s__law_whole)
    (E__law_is_heap : Facts K "_law_is_heap" s__law_is_heap)
    (E_rims_in : Facts K "rims_in" s_rims_in)
    (E_rims_of : Facts K "rims_of" s_rims_of)
    (E_joined : Facts K "joined" s_joined)
    (E__law_heap_right : Facts K "_law_heap_right" s__law_heap_right)
    (E__law_core : Facts K "_law_core" s__law_core)
    (E__law_joined_right : Facts K "_law_joined_right" s__law_joined_right)
    (E_law : Facts K "law" s_law)
    (U_MOST : Num K "MOST" 100)
    (z_len : PySem.W.nsIn K mainGlobals "len" = some none)
    (z_sum : PySem.W.nsIn K mainGlobals "sum" = some none)
    (z_all : PySem.W.nsIn K mainGlobals "all" = some none)
    (z_sorted : PySem.W.nsIn K mainGlobals "sorted" = some none)
    (z_isinstance : PySem.W.nsIn K mainGlobals "isinstance" = some none)
    (z_enumerate : PySem.W.nsIn K mainGlobals "enumerate" = some none)
    (z_range : PySem.W.nsIn K mainGlobals "range" = some none)
    (z_list : PySem.W.nsIn K mainGlobals "list" = some none)
    (z_max : PySem.W.nsIn K mainGlobals "max" = some none)
    (z_min : PySem.W.nsIn K mainGlobals "min" = some none)
    (z_abs : PySem.W.nsIn K mainGlobals "abs" = some none)
    (z_int : PySem.W.nsIn K mainGlobals "int" = some none)
    (z_bool : PySem.W.nsIn K mainGlobals "bool" = some none) :
    ∃ fd : FuncData, (∀ (s : Shared) (v : Value), BindsTo s fd ⟨[v], []⟩ [("_law_script", v)]) ∧ ∀ base : Heap, K.In base → base.Ns mainGlobals mg → FnOk l.prog w K mg base CX0 6 fa fd ["_law_script"] (sp_law K) := by
  have B : Bl mg := ⟨PySem.W.mg_none_of X G z_len, PySem.W.mg_none_of X G z_sum, PySem.W.mg_none_of X G z_all, PySem.W.mg_none_of X G z_sorted, PySem.W.mg_none_of X G z_isinstance, PySem.W.mg_none_of X G z_enumerate, PySem.W.mg_none_of X G z_range, PySem.W.mg_none_of X G z_list, PySem.W.mg_none_of X G z_max, PySem.W.mg_none_of X G z_min, PySem.W.mg_none_of X G z_abs, PySem.W.mg_none_of X G z_int, PySem.W.mg_none_of X G z_bool⟩
  obtain ⟨f__law_draw, _, _, _, _, _, _, _, _, _, a__law_draw, l__law_draw, c__law_draw, k__law_draw⟩ := E__law_draw
  obtain ⟨f__law_cell_at, _, _, _, _, _, _, _, _, _, a__law_cell_at, l__law_cell_at, c__law_cell_at, k__law_cell_at⟩ := E__law_cell_at
  obtain ⟨f__law_value, _, _, _, _, _, _, _, _, _, a__law_value, l__law_value, c__law_value, k__law_value⟩ := E__law_value
  obtain ⟨f__law_heap, _, _, _, _, _, _, _, _, _, a__law_heap, l__law_heap, c__law_heap, k__law_heap⟩ := E__law_heap
  obtain ⟨f__law_small, _, _, _, _, _, _, _, _, _, a__law_small, l__law_small, c__law_small, k__law_small⟩ := E__law_small
  obtain ⟨f__law_marks, _, _, _, _, _, _, _, _, _, a__law_marks, l__law_marks, c__law_marks, k__law_marks⟩ := E__law_marks
  obtain ⟨f__law_of, _, _, _, _, _, _, _, _, _, a__law_of, l__law_of, c__law_of, k__law_of⟩ := E__law_of
  obtain ⟨f__law_parts, _, _, _, _, _, _, _, _, _, a__law_parts, l__law_parts, c__law_parts, k__law_parts⟩ := E__law_parts
  obtain ⟨f_is_whole, _, _, _, _, _, _, _, _, _, a_is_whole, l_is_whole, c_is_whole, k_is_whole⟩ := E_is_whole
  obtain ⟨f_is_heap, _, _, _, _, _, _, _, _, _, a_is_heap, l_is_heap, c_is_heap, k_is_heap⟩ := E_is_heap
  obtain ⟨f_check_heap, _, _, _, _, _, _, _, _, _, a_check_heap, l_check_heap, c_check_heap, k_check_heap⟩ := E_check_heap
  obtain ⟨f_check_length, _, _, _, _, _, _, _, _, _, a_check_length, l_check_length, c_check_length, k_check_length⟩ := E_check_length
  obtain ⟨f_check_few, _, _, _, _, _, _, _, _, _, a_check_few, l_check_few, c_check_few, k_check_few⟩ := E_check_few
  obtain ⟨f_marks_of, _, _, _, _, _, _, _, _, _, a_marks_of, l_marks_of, c_marks_of, k_marks_of⟩ := E_marks_of
  obtain ⟨f_heap_of, _, _, _, _, _, _, _, _, _, a_heap_of, l_heap_of, c_heap_of, k_heap_of⟩ := E_heap_of
  obtain ⟨f_parts, _, _, _, _, _, _, _, _, _, a_parts, l_parts, c_parts, k_parts⟩ := E_parts
  obtain ⟨f_counts_of, _, _, _, _, _, _, _, _, _, a_counts_of, l_counts_of, c_counts_of, k_counts_of⟩ := E_counts_of
  obtain ⟨f_core, _, _, _, _, _, _, _, _, _, a_core, l_core, c_core, k_core⟩ := E_core
  obtain ⟨f__law_whole, _, _, _, _, _, _, _, _, _, a__law_whole, l__law_whole, c__law_whole, k__law_whole⟩ := E__law_whole
  obtain ⟨f__law_is_heap, _, _, _, _, _, _, _, _, _, a__law_is_heap, l__law_is_heap, c__law_is_heap, k__law_is_heap⟩ := E__law_is_heap
  obtain ⟨f_rims_in, _, _, _, _, _, _, _, _, _, a_rims_in, l_rims_in, c_rims_in, k_rims_in⟩ := E_rims_in
  obtain ⟨f_rims_of, _, _, _, _, _, _, _, _, _, a_rims_of, l_rims_of, c_rims_of, k_rims_of⟩ := E_rims_of
  obtain ⟨f_joined, _, _, _, _, _, _, _, _, _, a_joined, l_joined, c_joined, k_joined⟩ := E_joined
  obtain ⟨f__law_heap_right, _, _, _, _, _, _, _, _, _, a__law_heap_right, l__law_heap_right, c__law_heap_right, k__law_heap_right⟩ := E__law_heap_right
  obtain ⟨f__law_core, _, _, _, _, _, _, _, _, _, a__law_core, l__law_core, c__law_core, k__law_core⟩ := E__law_core
  obtain ⟨f__law_joined_right, _, _, _, _, _, _, _, _, _, a__law_joined_right, l__law_joined_right, c__law_joined_right, k__law_joined_right⟩ := E__law_joined_right
  obtain ⟨f_law, oc, od, kV, doc, pm, an, cdv, ct, osl, a_law, l_law, c_law, k_law⟩ := E_law
  obtain ⟨t_MOST, n_MOST⟩ := U_MOST
  have c_MOST := PySem.W.mg_of X G n_MOST
  have e := hfa.symm.trans (PySem.W.mg_of X G a_law)
  cases e
  refine ⟨PySem.W.fnOf "law" "law" (defArgs s_law) (defBody s_law) (defScope s_law) .none kV doc pm an cdv ct, fun s v => .of_eq rfl, fun base _ _ => ?_⟩
  have D__law_draw := ok__law_draw (P := l.prog) (w := w) (base := base) (fun_mk l__law_draw c__law_draw k__law_draw) (PySem.W.mg_of X G a__law_draw) B
  have D__law_cell_at := ok__law_cell_at (P := l.prog) (w := w) (base := base) (fun_mk l__law_cell_at c__law_cell_at k__law_cell_at) (PySem.W.mg_of X G a__law_cell_at) B
  have D__law_value := ok__law_value (P := l.prog) (w := w) (base := base) (fun_mk l__law_value c__law_value k__law_value) (PySem.W.mg_of X G a__law_value) B D__law_draw
  have D__law_heap := ok__law_heap (P := l.prog) (w := w) (base := base) (fun_mk l__law_heap c__law_heap k__law_heap) (PySem.W.mg_of X G a__law_heap) B D__law_draw D__law_cell_at D__law_value
  have D__law_small := ok__law_small (P := l.prog) (w := w) (base := base) (fun_mk l__law_small c__law_small k__law_small) (PySem.W.mg_of X G a__law_small) B D__law_value
  have D__law_marks := ok__law_marks (P := l.prog) (w := w) (base := base) (fun_mk l__law_marks c__law_marks k__law_marks) (PySem.W.mg_of X G a__law_marks) B
  have D__law_of := ok__law_of (P := l.prog) (w := w) (base := base) (fun_mk l__law_of c__law_of k__law_of) (PySem.W.mg_of X G a__law_of) B
  have D__law_parts := ok__law_parts (P := l.prog) (w := w) (base := base) (fun_mk l__law_parts c__law_parts k__law_parts) (PySem.W.mg_of X G a__law_parts) B D__law_marks D__law_of
  have D_is_whole := ok_is_whole (P := l.prog) (w := w) (base := base) (fun_mk l_is_whole c_is_whole k_is_whole) (PySem.W.mg_of X G a_is_whole) B
  have D_is_heap := ok_is_heap (P := l.prog) (w := w) (base := base) (fun_mk l_is_heap c_is_heap k_is_heap) (PySem.W.mg_of X G a_is_heap) B D_is_whole
  have D_check_heap := ok_check_heap (P := l.prog) (w := w) (base := base) (fun_mk l_check_heap c_check_heap k_check_heap) (PySem.W.mg_of X G a_check_heap) B D_is_heap
  have D_check_length := ok_check_length (P := l.prog) (w := w) (base := base) (fun_mk l_check_length c_check_length k_check_length) (PySem.W.mg_of X G a_check_length) B D_is_whole
  have D_check_few := ok_check_few (P := l.prog) (w := w) (base := base) (fun_mk l_check_few c_check_few k_check_few) (PySem.W.mg_of X G a_check_few) B D_check_length c_MOST
  have D_marks_of := ok_marks_of (P := l.prog) (w := w) (base := base) (fun_mk l_marks_of c_marks_of k_marks_of) (PySem.W.mg_of X G a_marks_of) B
  have D_heap_of := ok_heap_of (P := l.prog) (w := w) (base := base) (fun_mk l_heap_of c_heap_of k_heap_of) (PySem.W.mg_of X G a_heap_of) B
  have D_parts := ok_parts (P := l.prog) (w := w) (base := base) (fun_mk l_parts c_parts k_parts) (PySem.W.mg_of X G a_parts) B D_check_heap D_check_few D_marks_of D_heap_of
  have D_counts_of := ok_counts_of (P := l.prog) (w := w) (base := base) (fun_mk l_counts_of c_counts_of k_counts_of) (PySem.W.mg_of X G a_counts_of) B
  have D_core := ok_core (P := l.prog) (w := w) (base := base) (fun_mk l_core c_core k_core) (PySem.W.mg_of X G a_core) B D_check_heap D_check_length D_counts_of D_marks_of D_heap_of
  have D__law_whole := ok__law_whole (P := l.prog) (w := w) (base := base) (fun_mk l__law_whole c__law_whole k__law_whole) (PySem.W.mg_of X G a__law_whole) B
  have D__law_is_heap := ok__law_is_heap (P := l.prog) (w := w) (base := base) (fun_mk l__law_is_heap c__law_is_heap k__law_is_heap) (PySem.W.mg_of X G a__law_is_heap) B D__law_whole
  have D_rims_in := ok_rims_in (P := l.prog) (w := w) (base := base) (fun_mk l_rims_in c_rims_in k_rims_in) (PySem.W.mg_of X G a_rims_in) B D_check_heap D_check_length D_marks_of D_counts_of
  have D_rims_of := ok_rims_of (P := l.prog) (w := w) (base := base) (fun_mk l_rims_of c_rims_of k_rims_of) (PySem.W.mg_of X G a_rims_of) B D_marks_of
  have D_joined := ok_joined (P := l.prog) (w := w) (base := base) (fun_mk l_joined c_joined k_joined) (PySem.W.mg_of X G a_joined) B D_check_heap D_check_few D_is_heap D_rims_of D_marks_of D_counts_of D_heap_of
  have D__law_heap_right := ok__law_heap_right (P := l.prog) (w := w) (base := base) (fun_mk l__law_heap_right c__law_heap_right k__law_heap_right) (PySem.W.mg_of X G a__law_heap_right) B D__law_parts D_parts D_core D__law_is_heap D_rims_in D_joined
  have D__law_core := ok__law_core (P := l.prog) (w := w) (base := base) (fun_mk l__law_core c__law_core k__law_core) (PySem.W.mg_of X G a__law_core) B D__law_marks D__law_of
  have D__law_joined_right := ok__law_joined_right (P := l.prog) (w := w) (base := base) (fun_mk l__law_joined_right c__law_joined_right k__law_joined_right) (PySem.W.mg_of X G a__law_joined_right) B D_joined D__law_is_heap D__law_parts D__law_core D_parts D_core
  have D_law := ok_law (P := l.prog) (w := w) (base := base) (fun_mk l_law c_law k_law) (PySem.W.mg_of X G a_law) B D__law_draw D__law_cell_at D__law_heap D__law_small D__law_heap_right D__law_core D__law_joined_right D_joined D_parts
  exact D_law.ok
end Rh
open PySem PySem.W PyProof.Rows
set_option maxHeartbeats 0 in
theorem PySem.Challenge.cw_rimhooks_k02_whole_parts_holds : PySem.Challenge.rw_rimhooks_k02_whole_parts.Holds := by
  w_on; o_law; k_head; (case hw => w_witness2)
  k_fill
  refine L2.walk_ofB (l := PySem.Challenge.rw_rimhooks_k02_whole_parts) (n := 63) (k := 6) (x := "_law_script") (CX := fun _ => L2.CX0) (sp := fun w => Rh.sp_law _) rfl (by decide) rfl ⟨rfl, by decide, by decide⟩ (fun w h Y => PySem.W.kIn_of Y) ?F (fun _ _ a ns hl hb _ hS => ⟨a, ns, rfl, hS, ⟨hb, hl⟩, fun _ => rfl⟩) (fun _ _ _ _ _ h => h)
  case F =>
    intro w mg fa h KX G hmg
    refine' Rh.all_mk KX G hmg ?E0 ?E1 ?E2 ?E3 ?E4 ?E5 ?E6 ?E7 ?E8 ?E9 ?E10 ?E11 ?E12 ?E13 ?E14 ?E15 ?E16 ?E17 ?E18 ?E19 ?E20 ?E21 ?E22 ?E23 ?E24 ?E25 ?E26 ?U0 ?z0 ?z1 ?z2 ?z3 ?z4 ?z5 ?z6 ?z7 ?z8 ?z9 ?z10 ?z11 ?z12
    (case E0 => refine' Rh.facts_mk ?a ?l ?c ?k; (case a => k_is); (case l => k_is); (case c => k_is); (case k => k_is))
    (case E1 => refine' Rh.facts_mk ?a ?l ?c ?k; (case a => k_is); (case l => k_is); (case c => k_is); (case k => k_is))
    (case E2 => refine' Rh.facts_mk ?a ?l ?c ?k; (case a => k_is); (case l => k_is); (case c => k_is); (case k => k_is))
    (case E3 => refine' Rh.facts_mk ?a ?l ?c ?k; (case a => k_is); (case l => k_is); (case c => k_is); (case k => k_is))
    (case E4 => refine' Rh.facts_mk ?a ?l ?c ?k; (case a => k_is); (case l => k_is); (case c => k_is); (case k => k_is))
    (case E5 => refine' Rh.facts_mk ?a ?l ?c ?k; (case a => k_is); (case l => k_is); (case c => k_is); (case k => k_is))
    (case E6 => refine' Rh.facts_mk ?a ?l ?c ?k; (case a => k_is); (case l => k_is); (case c => k_is); (case k => k_is))
    (case E7 => refine' Rh.facts_mk ?a ?l ?c ?k; (case a => k_is); (case l => k_is); (case c => k_is); (case k => k_is))
    (case E8 => refine' Rh.facts_mk ?a ?l ?c ?k; (case a => k_is); (case l => k_is); (case c => k_is); (case k => k_is))
    (case E9 => refine' Rh.facts_mk ?a ?l ?c ?k; (case a => k_is); (case l => k_is); (case c => k_is); (case k => k_is))
    (case E10 => refine' Rh.facts_mk ?a ?l ?c ?k; (case a => k_is); (case l => k_is); (case c => k_is); (case k => k_is))
    (case E11 => refine' Rh.facts_mk ?a ?l ?c ?k; (case a => k_is); (case l => k_is); (case c => k_is); (case k => k_is))
    (case E12 => refine' Rh.facts_mk ?a ?l ?c ?k; (case a => k_is); (case l => k_is); (case c => k_is); (case k => k_is))
    (case E13 => refine' Rh.facts_mk ?a ?l ?c ?k; (case a => k_is); (case l => k_is); (case c => k_is); (case k => k_is))
    (case E14 => refine' Rh.facts_mk ?a ?l ?c ?k; (case a => k_is); (case l => k_is); (case c => k_is); (case k => k_is))
    (case E15 => refine' Rh.facts_mk ?a ?l ?c ?k; (case a => k_is); (case l => k_is); (case c => k_is); (case k => k_is))
    (case E16 => refine' Rh.facts_mk ?a ?l ?c ?k; (case a => k_is); (case l => k_is); (case c => k_is); (case k => k_is))
    (case E17 => refine' Rh.facts_mk ?a ?l ?c ?k; (case a => k_is); (case l => k_is); (case c => k_is); (case k => k_is))
    (case E18 => refine' Rh.facts_mk ?a ?l ?c ?k; (case a => k_is); (case l => k_is); (case c => k_is); (case k => k_is))
    (case E19 => refine' Rh.facts_mk ?a ?l ?c ?k; (case a => k_is); (case l => k_is); (case c => k_is); (case k => k_is))
    (case E20 => refine' Rh.facts_mk ?a ?l ?c ?k; (case a => k_is); (case l => k_is); (case c => k_is); (case k => k_is))
    (case E21 => refine' Rh.facts_mk ?a ?l ?c ?k; (case a => k_is); (case l => k_is); (case c => k_is); (case k => k_is))
    (case E22 => refine' Rh.facts_mk ?a ?l ?c ?k; (case a => k_is); (case l => k_is); (case c => k_is); (case k => k_is))
    (case E23 => refine' Rh.facts_mk ?a ?l ?c ?k; (case a => k_is); (case l => k_is); (case c => k_is); (case k => k_is))
    (case E24 => refine' Rh.facts_mk ?a ?l ?c ?k; (case a => k_is); (case l => k_is); (case c => k_is); (case k => k_is))
    (case E25 => refine' Rh.facts_mk ?a ?l ?c ?k; (case a => k_is); (case l => k_is); (case c => k_is); (case k => k_is))
    (case E26 => refine' Rh.facts_mk ?a ?l ?c ?k; (case a => k_is); (case l => k_is); (case c => k_is); (case k => k_is))
    (case U0 => refine' Rh.num_mk ?a; (case a => k_is))
    (case z0 => k_is)
    (case z1 => k_is)
    (case z2 => k_is)
    (case z3 => k_is)
    (case z4 => k_is)
    (case z5 => k_is)
    (case z6 => k_is)
    (case z7 => k_is)
    (case z8 => k_is)
    (case z9 => k_is)
    (case z10 => k_is)
    (case z11 => k_is)
    (case z12 => k_is)
