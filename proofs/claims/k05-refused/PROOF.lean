import PyProof.Rows.All
import Wide.All
import OpenK.AllK
import Wide.FinOn
import HandS.ForMost
import HandS.Evl
import HandS.SortKw
import HandS.Wide
import HandS.IsInst
import HandS.Style
import HandS.More
import HandS.EndBits
import HandS.Exc
import HandS.ExcOwn
import HandS.ExcIs
import HandS.ExcBuiltin
import HandS.CallLocal
import HandS.WordsExc
import HandS.HotCalls
import HandS.Iter
import PySem.Challenge.RW_rimhooks_k05_refused

set_option Elab.async false
set_option linter.all false
set_option maxRecDepth 100000
set_option maxHeartbeats 8000000

namespace Rh

theorem perm_sum {a b : List Int} (h : a.Perm b) : a.sum = b.sum := by
  induction h with
  | nil => rfl
  | cons x _ ih => simp [ih]
  | swap x y l => simp; omega
  | trans _ _ h1 h2 => exact h1.trans h2
theorem len_le_of_sub {a b : List Int} (h : a.Nodup) (hs : ∀ x, x ∈ a → x ∈ b) : a.length ≤ b.length := by
  induction a generalizing b with
  | nil => exact Nat.zero_le _
  | cons x r ih =>
    have hx : x ∈ b := hs x (List.mem_cons_self)
    obtain ⟨h1, h2⟩ := List.nodup_cons.mp h
    have e := List.length_erase_of_mem hx
    have : r.length ≤ (b.erase x).length := ih h2 fun y hy => by
      have : y ≠ x := fun e => h1 (e ▸ hy)
      exact (List.mem_erase_of_ne this).mpr (hs y (List.mem_cons_of_mem _ hy))
    have p : 0 < b.length := List.length_pos_of_mem hx
    simp only [List.length_cons]
    omega
theorem perm_of_mem {a b : List Int} (ha : a.Nodup) (hb : b.Nodup) (h : ∀ x, x ∈ a ↔ x ∈ b) : a.Perm b :=
  (List.perm_ext_iff_of_nodup ha hb).mpr h

/-- the ints below n, from 0 on -/
def upto (n : Nat) : List Int := (List.range n).map fun (k : Nat) => (k : Int)
theorem upto_len (n : Nat) : (upto n).length = n := by simp [upto]
theorem mem_upto {n : Nat} {x : Int} : x ∈ upto n ↔ 0 ≤ x ∧ x < n := by
  unfold upto
  rw [List.mem_map]
  constructor
  · rintro ⟨k, hk, rfl⟩
    have := List.mem_range.mp hk
    omega
  · rintro ⟨h0, h1⟩
    exact ⟨x.toNat, List.mem_range.mpr (by omega), by omega⟩
theorem upto_succ (n : Nat) : upto (n + 1) = upto n ++ [(n : Int)] := by
  simp [upto, List.range_succ]

/-- a list of different ints from 0 on, with each its forerunner: the ints below its length -/
theorem closed_mem {Q : List Int} (hn : Q.Nodup) (h0 : ∀ x ∈ Q, 0 ≤ x) (hc : ∀ x ∈ Q, 1 ≤ x → x - 1 ∈ Q) (x : Int) : x ∈ Q ↔ 0 ≤ x ∧ x < Q.length := by
  have down : ∀ (k : Nat) (x : Int), x ∈ Q → (k : Int) ≤ x → x - k ∈ Q := by
    intro k
    induction k with
    | zero => intro x h _; simpa using h
    | succ k ih =>
      intro x h hk
      have h1 := ih x h (by omega)
      have h2 := hc _ h1 (by omega)
      have e : x - (k : Int) - 1 = x - ((k + 1 : Nat) : Int) := by omega
      rw [← e]
      exact h2
  constructor
  · intro h
    have hx := h0 x h
    refine ⟨hx, ?_⟩
    have hs : ∀ y, y ∈ upto (x.toNat + 1) → y ∈ Q := fun y hy => by
      obtain ⟨a, b⟩ := mem_upto.mp hy
      have := down (x - y).toNat x h (by omega)
      have e : x - ((x - y).toNat : Int) = y := by omega
      rwa [e] at this
    have nd : (upto (x.toNat + 1)).Nodup := by
      unfold upto
      rw [List.nodup_iff_pairwise_ne, List.pairwise_map]
      exact List.Pairwise.imp (fun h e => h (by omega)) (List.nodup_iff_pairwise_ne.mp List.nodup_range)
    have := len_le_of_sub nd hs
    rw [upto_len] at this
    omega
  · rintro ⟨hx, hl⟩
    refine Classical.byContradiction fun h => ?_
    have hs : ∀ y, y ∈ Q → y ∈ upto x.toNat := fun y hy => by
      have hy0 := h0 y hy
      refine mem_upto.mpr ⟨hy0, ?_⟩
      refine Classical.byContradiction fun hlt => h ?_
      have := down (y - x).toNat y hy (by omega)
      have e : y - ((y - x).toNat : Int) = x := by omega
      rwa [e] at this
    have := len_le_of_sub hn hs
    rw [upto_len] at this
    omega

def marksOf : List Int → List Int
  | [] => []
  | x :: r => (x + (r.length : Int)) :: marksOf r
def rowsOf : List Int → List Int
  | [] => []
  | x :: r => (x - (r.length : Int)) :: rowsOf r
theorem marksOf_len : ∀ h : List Int, (marksOf h).length = h.length
  | [] => rfl
  | _ :: r => congrArg (· + 1) (marksOf_len r)
theorem rowsOf_len : ∀ h : List Int, (rowsOf h).length = h.length
  | [] => rfl
  | _ :: r => congrArg (· + 1) (rowsOf_len r)
theorem rows_marks : ∀ h : List Int, rowsOf (marksOf h) = h
  | [] => rfl
  | x :: r => by
    show (x + (r.length : Int) - ((marksOf r).length : Int)) :: rowsOf (marksOf r) = x :: r
    rw [rows_marks r, marksOf_len]
    congr 1
    omega
theorem marks_rows : ∀ h : List Int, marksOf (rowsOf h) = h
  | [] => rfl
  | x :: r => by
    show (x - (r.length : Int) + ((rowsOf r).length : Int)) :: marksOf (rowsOf r) = x :: r
    rw [marks_rows r, rowsOf_len]
    congr 1
    omega
/-- 0 + 1 + .. + (n - 1) -/
def tri : Nat → Int
  | 0 => 0
  | n + 1 => tri n + (n : Int)
theorem rowsOf_sum : ∀ S : List Int, (rowsOf S).sum = S.sum - tri S.length
  | [] => rfl
  | x :: r => by
    show ((x - (r.length : Int)) :: rowsOf r).sum = (x :: r).sum - (tri r.length + (r.length : Int))
    rw [List.sum_cons, List.sum_cons, rowsOf_sum r]
    omega
theorem marksOf_sum (h : List Int) : (marksOf h).sum = h.sum + tri h.length := by
  have e := rowsOf_sum (marksOf h)
  rw [rows_marks, marksOf_len] at e
  omega

/-- sorted, falling -/
def sortD (M : List Int) : List Int := M.mergeSort (fun a b => decide (b ≤ a))
theorem sortD_perm (M : List Int) : (sortD M).Perm M := List.mergeSort_perm M _
theorem sortD_falls (M : List Int) : (sortD M).Pairwise (· ≥ ·) := by
  have h := List.pairwise_mergeSort (le := fun a b : Int => decide (b ≤ a)) (by intro a b c; simp; omega) (by intro a b; simp; omega) M
  exact List.Pairwise.imp (fun h => by simpa using h) h
theorem falls_eq : ∀ {a b : List Int}, a.Perm b → a.Pairwise (· ≥ ·) → b.Pairwise (· ≥ ·) → a = b
  | [], b, p, _, _ => (List.nil_perm.mp p).symm
  | x :: r, [], p, _, _ => absurd p.length_eq (by simp)
  | x :: r, y :: s, p, ha, hb => by
    obtain ⟨a1, a2⟩ := List.pairwise_cons.mp ha
    obtain ⟨b1, b2⟩ := List.pairwise_cons.mp hb
    have hxy : x ≤ y := by
      rcases List.mem_cons.mp (p.mem_iff.mp (List.mem_cons_self)) with e | e
      · omega
      · exact b1 x e
    have hyx : y ≤ x := by
      rcases List.mem_cons.mp (p.mem_iff.mpr (List.mem_cons_self)) with e | e
      · omega
      · exact a1 y e
    have e : x = y := by omega
    subst e
    rw [falls_eq ((List.perm_cons x).mp p) a2 b2]
theorem sortD_eq {M S : List Int} (p : S.Perm M) (h : S.Pairwise (· ≥ ·)) : S = sortD M := falls_eq (p.trans (sortD_perm M).symm) h (sortD_falls M)
theorem sortD_congr {M N : List Int} (p : M.Perm N) : sortD M = sortD N := sortD_eq ((sortD_perm M).trans p) (sortD_falls M)

def heapOf (M : List Int) : List Int := (rowsOf (sortD M)).filter fun x => decide (0 < x)
theorem heapOf_congr {M N : List Int} (p : M.Perm N) : heapOf M = heapOf N := by
  unfold heapOf
  rw [sortD_congr p]
structure IsHeap (h : List Int) : Prop where
  pos : ∀ x ∈ h, 0 < x
  falls : h.Pairwise (· ≥ ·)
/-- marks: different, from 0 on -/
structure Beads (M : List Int) : Prop where
  nd : M.Nodup
  nn : ∀ x ∈ M, 0 ≤ x
theorem Beads.perm {M N : List Int} (b : Beads M) (p : M.Perm N) : Beads N := ⟨p.nodup_iff.mp b.nd, fun x hx => b.nn x (p.mem_iff.mpr hx)⟩

def zeros (d : Nat) : List Int := List.replicate d 0
def pad (h : List Int) (d : Nat) : List Int := marksOf (h ++ zeros d)
theorem pad_zero (h : List Int) : pad h 0 = marksOf h := by simp [pad, zeros]
theorem pad_len (h : List Int) (d : Nat) : (pad h d).length = h.length + d := by simp [pad, zeros, marksOf_len]
/-- one row of none more -/
def sh (M : List Int) : List Int := M.map (· + 1) ++ [0]
theorem marks_snoc : ∀ h : List Int, marksOf (h ++ [0]) = sh (marksOf h)
  | [] => rfl
  | x :: r => by
    show (x + ((r ++ [0]).length : Int)) :: marksOf (r ++ [0]) = _
    rw [marks_snoc r]
    show _ = (x + (r.length : Int) + 1) :: ((marksOf r).map (· + 1) ++ [0])
    rw [List.length_append]
    congr 1
    show x + ((r.length + 1 : Nat) : Int) = _
    omega
theorem pad_succ (h : List Int) (d : Nat) : pad h (d + 1) = sh (pad h d) := by
  unfold pad zeros
  rw [show List.replicate (d + 1) (0 : Int) = List.replicate d 0 ++ [0] from List.replicate_succ', ← List.append_assoc, marks_snoc]
theorem mem_sh {M : List Int} {x : Int} : x ∈ sh M ↔ x = 0 ∨ x - 1 ∈ M := by
  unfold sh
  rw [List.mem_append, List.mem_map]
  constructor
  · rintro (⟨y, hy, rfl⟩ | h)
    · exact .inr (by simpa using hy)
    · exact .inl (by simpa using h)
  · rintro (h | h)
    · exact .inr (by simp [h])
    · exact .inl ⟨x - 1, h, by omega⟩
theorem Beads.sh {M : List Int} (b : Beads M) : Beads (sh M) := by
  refine ⟨?_, fun x hx => ?_⟩
  · unfold Rh.sh
    rw [List.nodup_append]
    refine ⟨?_, by simp, ?_⟩
    · rw [List.nodup_iff_pairwise_ne, List.pairwise_map]
      exact List.Pairwise.imp (fun h e => h (by omega)) (List.nodup_iff_pairwise_ne.mp b.nd)
    · intro x hx y hy e
      obtain ⟨z, hz, rfl⟩ := List.mem_map.mp hx
      have := b.nn z hz
      simp only [List.mem_singleton] at hy
      omega
  · rcases mem_sh.mp hx with e | e
    · omega
    · have := b.nn _ e
      omega
theorem heap_marks {h : List Int} (H : IsHeap h) : ∀ x ∈ marksOf h, (0 : Int) < x := by
  have : ∀ h : List Int, (∀ x ∈ h, 0 < x) → ∀ x ∈ marksOf h, (0 : Int) < x := by
    intro h
    induction h with
    | nil => intro _ x hx; cases hx
    | cons y r ih =>
      intro hp x hx
      rcases List.mem_cons.mp hx with e | e
      · have := hp y List.mem_cons_self
        omega
      · exact ih (fun z hz => hp z (List.mem_cons_of_mem _ hz)) x e
  exact this h H.pos
theorem marks_lt : ∀ {h : List Int}, h.Pairwise (· ≥ ·) → (marksOf h).Pairwise (· > ·)
  | [], _ => List.Pairwise.nil
  | x :: r, hp => by
    obtain ⟨a, b⟩ := List.pairwise_cons.mp hp
    refine List.pairwise_cons.mpr ⟨fun m hm => ?_, marks_lt b⟩
    have : ∀ (s : List Int), (∀ y ∈ s, y ≤ x) → ∀ m ∈ marksOf s, m < x + (s.length : Int) := by
      intro s
      induction s with
      | nil => intro _ m hm; cases hm
      | cons y t ih =>
        intro hs m hm
        have hy := hs y List.mem_cons_self
        rcases List.mem_cons.mp hm with e | e
        · rw [List.length_cons]; omega
        · have := ih (fun z hz => hs z (List.mem_cons_of_mem _ hz)) m e
          rw [List.length_cons]; omega
    exact this r a m hm
theorem marks_falls {h : List Int} (hp : h.Pairwise (· ≥ ·)) : (marksOf h).Pairwise (· ≥ ·) := List.Pairwise.imp (fun h => by omega) (marks_lt hp)
theorem marks_beads {h : List Int} (H : IsHeap h) : Beads (marksOf h) :=
  ⟨List.nodup_iff_pairwise_ne.mpr (List.Pairwise.imp (fun h => by omega) (marks_lt H.falls)), fun x hx => by have := heap_marks H x hx; omega⟩
theorem pad_beads {h : List Int} (H : IsHeap h) : ∀ d, Beads (pad h d)
  | 0 => by rw [pad_zero]; exact marks_beads H
  | d + 1 => by rw [pad_succ]; exact (pad_beads H d).sh

/-- the heap of a heap's marks, rows of none let in -/
theorem pad_falls {h : List Int} (H : IsHeap h) (d : Nat) : (h ++ zeros d).Pairwise (· ≥ ·) := by
  rw [List.pairwise_append]
  refine ⟨H.falls, ?_, fun a ha b hb => ?_⟩
  · unfold zeros
    exact List.pairwise_replicate.mpr (.inr (by omega))
  · have := H.pos a ha
    have e := List.eq_of_mem_replicate hb
    omega
theorem heapOf_pad {h : List Int} (H : IsHeap h) (d : Nat) : heapOf (pad h d) = h := by
  unfold heapOf pad
  rw [← sortD_eq (List.Perm.refl _) (marks_falls (pad_falls H d)), rows_marks, List.filter_append]
  have e1 : h.filter (fun x => decide (0 < x)) = h := List.filter_eq_self.mpr fun x hx => by simpa using H.pos x hx
  have e2 : (zeros d).filter (fun x => decide (0 < x)) = [] := List.filter_eq_nil_iff.mpr fun x hx => by
    have e := List.eq_of_mem_replicate hx
    simp [e]
  rw [e1, e2, List.append_nil]
theorem heapOf_marks {h : List Int} (H : IsHeap h) : heapOf (marksOf h) = h := by
  rw [← pad_zero]
  exact heapOf_pad H 0

/-- falling rows from 0 on: a heap and rows of none -/
theorem split_rows : ∀ {R : List Int}, R.Pairwise (· ≥ ·) → (∀ x ∈ R, 0 ≤ x) → R = R.filter (fun x => decide (0 < x)) ++ zeros (R.length - (R.filter fun x => decide (0 < x)).length)
  | [], _, _ => rfl
  | x :: r, hp, h0 => by
    obtain ⟨a, b⟩ := List.pairwise_cons.mp hp
    by_cases hx : 0 < x
    · have ih := split_rows b fun y hy => h0 y (List.mem_cons_of_mem _ hy)
      rw [List.filter_cons, if_pos (by simpa using hx), List.length_cons, List.length_cons, Nat.add_sub_add_right, List.cons_append, ← ih]
    · have e0 : ∀ y ∈ x :: r, y = 0 := fun y hy => by
        have h1 := h0 y hy
        rcases List.mem_cons.mp hy with e | e
        · omega
        · have := a y e
          omega
      have ef : (x :: r).filter (fun x => decide (0 < x)) = [] := List.filter_eq_nil_iff.mpr fun y hy => by simp [e0 y hy]
      rw [ef, List.nil_append, List.length_nil, Nat.sub_zero]
      exact List.eq_replicate_iff.mpr ⟨rfl, e0⟩
theorem rows_ok : ∀ {S : List Int}, S.Pairwise (· > ·) → (∀ x ∈ S, 0 ≤ x) → (rowsOf S).Pairwise (· ≥ ·) ∧ (∀ x ∈ rowsOf S, 0 ≤ x) ∧ ∀ x, S.head? = some x → (S.length : Int) ≤ x + 1
  | [], _, _ => ⟨List.Pairwise.nil, fun _ h => by (cases h), fun _ h => by (cases h)⟩
  | x :: r, hp, h0 => by
    obtain ⟨a, b⟩ := List.pairwise_cons.mp hp
    obtain ⟨i1, i2, i3⟩ := rows_ok b fun y hy => h0 y (List.mem_cons_of_mem _ hy)
    have hx := h0 x List.mem_cons_self
    have hl : (r.length : Int) ≤ x := by
      cases r with
      | nil => simpa using hx
      | cons y s =>
        have := i3 y rfl
        have := a y List.mem_cons_self
        omega
    refine ⟨List.pairwise_cons.mpr ⟨fun z hz => ?_, i1⟩, fun z hz => ?_, fun z hz => ?_⟩
    · cases r with
      | nil => cases hz
      | cons y s =>
        have h1 := a y List.mem_cons_self
        have e : (rowsOf (y :: s)) = (y - (s.length : Int)) :: rowsOf s := rfl
        rw [e] at hz i1
        have hz' : z ≤ y - (s.length : Int) := by
          rcases List.mem_cons.mp hz with q | q
          · omega
          · exact (List.pairwise_cons.mp i1).1 z q
        rw [List.length_cons]
        omega
    · rcases List.mem_cons.mp hz with q | q
      · omega
      · exact i2 z q
    · have e : x = z := Option.some.inj hz
      rw [List.length_cons]
      omega
/-- marks of any kind: the heap of them, with rows of none, has them -/
theorem beads_pad {M : List Int} (B : Beads M) : IsHeap (heapOf M) ∧ (heapOf M).length ≤ M.length ∧ M.Perm (pad (heapOf M) (M.length - (heapOf M).length)) := by
  have p := sortD_perm M
  have hf : (sortD M).Pairwise (· > ·) := by
    have h1 := sortD_falls M
    have h2 := List.nodup_iff_pairwise_ne.mp (p.nodup_iff.mpr B.nd)
    exact List.Pairwise.imp₂ (fun a b h1 h2 => by omega) h1 h2
  obtain ⟨r1, r2, _⟩ := rows_ok hf fun x hx => B.nn x (p.mem_iff.mp hx)
  have hs := split_rows r1 r2
  have el : (rowsOf (sortD M)).length = M.length := by rw [rowsOf_len, p.length_eq]
  refine ⟨⟨fun x hx => by simpa using (List.mem_filter.mp hx).2, List.Pairwise.filter _ r1⟩, ?_, ?_⟩
  · have := List.length_filter_le (fun x => decide ((0 : Int) < x)) (rowsOf (sortD M))
    rw [el] at this
    exact this
  · unfold pad
    have e : heapOf M ++ zeros (M.length - (heapOf M).length) = rowsOf (sortD M) := by
      rw [← el]
      exact hs.symm
    rw [e, marks_rows]
    exact p.symm
theorem heapOf_sum {M : List Int} (B : Beads M) : (heapOf M).sum = M.sum - tri M.length := by
  obtain ⟨_, h2, h3⟩ := beads_pad B
  have e := perm_sum h3
  unfold pad at e
  rw [marksOf_sum, List.sum_append, List.length_append] at e
  have z : (zeros (M.length - (heapOf M).length)).sum = 0 := by
    unfold zeros
    simp
  have l : (zeros (M.length - (heapOf M).length)).length = M.length - (heapOf M).length := by simp [zeros]
  rw [z, l, Nat.add_sub_cancel' h2] at e
  omega
theorem heapOf_sh {M : List Int} (B : Beads M) : heapOf (sh M) = heapOf M := by
  obtain ⟨h1, h2, h3⟩ := beads_pad B
  have p : (sh M).Perm (pad (heapOf M) (M.length - (heapOf M).length + 1)) := by
    rw [pad_succ]
    unfold sh
    exact (h3.map _).append_right _
  rw [heapOf_congr p, heapOf_pad h1]
/-- as many marks, the same heap: the same marks -/
theorem heapOf_inj {M N : List Int} (A : Beads M) (B : Beads N) (hl : M.length = N.length) (h : heapOf M = heapOf N) : M.Perm N := by
  obtain ⟨_, _, p⟩ := beads_pad A
  obtain ⟨_, _, q⟩ := beads_pad B
  rw [h, hl] at p
  exact p.trans q.symm
end Rh

namespace Rh

theorem qr {L q r x : Int} (h0 : 0 ≤ r) (h1 : r < L) (e : x = L * q + r) : x / L = q ∧ x % L = r := by
  subst e
  have hL : L ≠ 0 := by omega
  constructor
  · rw [Int.add_comm, Int.add_mul_ediv_left _ _ hL, Int.ediv_eq_zero_of_lt h0 h1, Int.zero_add]
  · rw [Int.add_comm, Int.add_mul_emod_self_left, Int.emod_eq_of_lt h0 h1]
theorem qr_of (L x : Int) : x = L * (x / L) + x % L := (Int.mul_ediv_add_emod x L).symm
theorem rest_ok {L : Int} (hL : 0 < L) (x : Int) : 0 ≤ x % L ∧ x % L < L := ⟨Int.emod_nonneg x (by omega), Int.emod_lt_of_pos x hL⟩
theorem quo_nn {L x : Int} (hL : 0 < L) (h : 0 ≤ x) : 0 ≤ x / L := Int.ediv_nonneg h (by omega)
theorem add_len {L : Int} (hL : 0 < L) (x : Int) : (x + L) / L = x / L + 1 ∧ (x + L) % L = x % L := by
  obtain ⟨h0, h1⟩ := rest_ok hL x
  have e := qr_of L x
  refine qr h0 h1 ?_
  rw [Int.mul_add, Int.mul_one]
  omega
theorem sub_len {L : Int} (hL : 0 < L) (x : Int) : (x - L) / L = x / L - 1 ∧ (x - L) % L = x % L := by
  have h := add_len hL (x - L)
  rw [Int.sub_add_cancel] at h
  omega
theorem quo_zero {L x : Int} (hL : 0 < L) (h0 : 0 ≤ x) : x / L < 1 ↔ x < L := by
  constructor
  · intro h
    have hq := quo_nn hL h0
    have e := qr_of L x
    have hz : x / L = 0 := by omega
    rw [hz, Int.mul_zero] at e
    have := rest_ok hL x
    omega
  · intro h
    rw [Int.ediv_eq_zero_of_lt h0 h]
    omega

def cnt (M : List Int) (L r : Int) : Nat := M.countP fun m => decide (m % L = r)
theorem cnt_nil (L r : Int) : cnt [] L r = 0 := rfl
theorem cnt_cons (m : Int) (M : List Int) (L r : Int) : cnt (m :: M) L r = cnt M L r + if m % L = r then 1 else 0 := by
  unfold cnt
  rw [List.countP_cons]
  simp
theorem cnt_append (M N : List Int) (L r : Int) : cnt (M ++ N) L r = cnt M L r + cnt N L r := by
  unfold cnt
  rw [List.countP_append]
theorem cnt_perm {M N : List Int} (p : M.Perm N) (L r : Int) : cnt M L r = cnt N L r := p.countP_eq _
theorem cnt_le (M : List Int) (L r : Int) : cnt M L r ≤ M.length := List.countP_le_length

/-- a place that is taken when all marks of each rest lie as low as can be -/
def Low (M : List Int) (L x : Int) : Prop := 0 ≤ x ∧ x / L < cnt M L (x % L)
theorem Low.perm {M N : List Int} (p : M.Perm N) {L x : Int} : Low M L x ↔ Low N L x := by
  unfold Low
  rw [cnt_perm p]
structure IsCore (C M : List Int) (L : Int) : Prop where
  nd : C.Nodup
  mem : ∀ x, x ∈ C ↔ Low M L x
theorem IsCore.perm {C D M N : List Int} {L : Int} (c : IsCore C M L) (d : IsCore D N L) (p : M.Perm N) : C.Perm D :=
  perm_of_mem c.nd d.nd fun x => by rw [c.mem, d.mem, Low.perm p]
theorem IsCore.beads {C M : List Int} {L : Int} (c : IsCore C M L) : Beads C := ⟨c.nd, fun x hx => ((c.mem x).mp hx).1⟩
theorem IsCore.of_perm {C M N : List Int} {L : Int} (c : IsCore C M L) (p : M.Perm N) : IsCore C N L := ⟨c.nd, fun x => by rw [c.mem, Low.perm p]⟩

def lowsFrom (L : Int) : List Int → List Int → List Int
  | _, [] => []
  | pre, m :: r => (m % L + L * (cnt pre L (m % L) : Int)) :: lowsFrom L (pre ++ [m]) r
def lowsOf (M : List Int) (L : Int) : List Int := lowsFrom L [] M
def manyFrom (L : Int) : List Int → List Int → Int
  | _, [] => 0
  | pre, m :: r => (m / L - (cnt pre L (m % L) : Int)) + manyFrom L (pre ++ [m]) r
def manyOf (M : List Int) (L : Int) : Int := manyFrom L [] M
theorem lowsFrom_len (L : Int) : ∀ (r pre : List Int), (lowsFrom L pre r).length = r.length
  | [], _ => rfl
  | _ :: r, pre => congrArg (· + 1) (lowsFrom_len L r _)
theorem lowsOf_len (M : List Int) (L : Int) : (lowsOf M L).length = M.length := lowsFrom_len L M []
theorem lows_sum (L : Int) : ∀ (r pre : List Int), (lowsFrom L pre r).sum + L * manyFrom L pre r = r.sum
  | [], _ => by simp [lowsFrom, manyFrom]
  | m :: r, pre => by
    have ih := lows_sum L r (pre ++ [m])
    show ((m % L + L * (cnt pre L (m % L) : Int)) :: lowsFrom L (pre ++ [m]) r).sum + L * ((m / L - (cnt pre L (m % L) : Int)) + manyFrom L (pre ++ [m]) r) = (m :: r).sum
    rw [List.sum_cons, List.sum_cons, Int.mul_add, Int.mul_sub]
    have e := qr_of L m
    omega
theorem mem_lowsFrom {L : Int} (hL : 0 < L) : ∀ (r pre : List Int) (x : Int), x ∈ lowsFrom L pre r ↔ 0 ≤ x ∧ (cnt pre L (x % L) : Int) ≤ x / L ∧ x / L < (cnt (pre ++ r) L (x % L) : Nat)
  | [], pre, x => by
    rw [List.append_nil]
    constructor
    · intro h
      cases h
    · rintro ⟨_, h1, h2⟩
      omega
  | m :: r, pre, x => by
    have ih := mem_lowsFrom hL r (pre ++ [m]) x
    have hm := rest_ok hL m
    have ea : cnt (pre ++ [m]) L (x % L) = cnt pre L (x % L) + if m % L = x % L then 1 else 0 := by
      rw [cnt_append, cnt_cons, cnt_nil, Nat.zero_add]
    have eb : pre ++ [m] ++ r = pre ++ m :: r := by simp
    rw [eb] at ih
    show x ∈ (m % L + L * (cnt pre L (m % L) : Int)) :: lowsFrom L (pre ++ [m]) r ↔ _
    rw [List.mem_cons, ih, ea]
    have hc : cnt (pre ++ m :: r) L (x % L) = cnt pre L (x % L) + ((if m % L = x % L then 1 else 0) + cnt r L (x % L)) := by
      rw [cnt_append, cnt_cons]
      omega
    rw [hc]
    by_cases e : m % L = x % L
    · rw [if_pos e, e]
      constructor
      · rintro (h | ⟨h0, h1, h2⟩)
        · obtain ⟨q1, q2⟩ := qr (by omega) (by omega) (show x = L * (cnt pre L (x % L) : Int) + m % L by omega)
          refine ⟨?_, by omega, by omega⟩
          have := Int.mul_nonneg (Int.le_of_lt hL) (Int.natCast_nonneg (cnt pre L (x % L)))
          omega
        · exact ⟨h0, by omega, by omega⟩
      · rintro ⟨h0, h1, h2⟩
        by_cases hq : x / L = (cnt pre L (x % L) : Int)
        · left
          have e2 := qr_of L x
          rw [hq] at e2
          omega
        · right
          exact ⟨h0, by omega, by omega⟩
    · rw [if_neg e]
      constructor
      · rintro (h | ⟨h0, h1, h2⟩)
        · obtain ⟨q1, q2⟩ := qr hm.1 hm.2 (show x = L * (cnt pre L (m % L) : Int) + m % L by omega)
          exact absurd q2.symm e
        · exact ⟨h0, by omega, by omega⟩
      · rintro ⟨h0, h1, h2⟩
        right
        exact ⟨h0, by omega, by omega⟩
theorem lowsFrom_nd {L : Int} (hL : 0 < L) : ∀ (r pre : List Int), (lowsFrom L pre r).Nodup
  | [], _ => List.nodup_nil
  | m :: r, pre => by
    refine List.nodup_cons.mpr ⟨fun h => ?_, lowsFrom_nd hL r _⟩
    obtain ⟨h0, h1, h2⟩ := (mem_lowsFrom hL r (pre ++ [m]) _).mp h
    have hm := rest_ok hL m
    obtain ⟨q1, q2⟩ := qr hm.1 hm.2 (show m % L + L * (cnt pre L (m % L) : Int) = L * (cnt pre L (m % L) : Int) + m % L by omega)
    rw [q1, q2, cnt_append, cnt_cons, if_pos rfl] at h1
    omega
theorem lowsOf_core {L : Int} (hL : 0 < L) (M : List Int) : IsCore (lowsOf M L) M L := by
  refine ⟨lowsFrom_nd hL M [], fun x => ?_⟩
  unfold lowsOf Low
  rw [mem_lowsFrom hL, List.nil_append, cnt_nil]
  constructor
  · rintro ⟨a, _, c⟩
    exact ⟨a, c⟩
  · rintro ⟨a, c⟩
    exact ⟨a, quo_nn hL a, c⟩
theorem lowsOf_congr {L : Int} (hL : 0 < L) {M N : List Int} (p : M.Perm N) : (lowsOf M L).Perm (lowsOf N L) := (lowsOf_core hL M).perm (lowsOf_core hL N) p
theorem many_sum (M : List Int) (L : Int) : L * manyOf M L = M.sum - (lowsOf M L).sum := by
  have h := lows_sum L M []
  show L * manyFrom L [] M = M.sum - (lowsFrom L [] M).sum
  omega
theorem many_eq {L a b : Int} (hL : 0 < L) (h : L * a = L * b) : a = b := Int.eq_of_mul_eq_mul_left (by omega) h
theorem many_congr {L : Int} (hL : 0 < L) {M N : List Int} (p : M.Perm N) : manyOf M L = manyOf N L :=
  many_eq hL (by rw [many_sum, many_sum, perm_sum p, perm_sum (lowsOf_congr hL p)])

theorem cnt_sh (M : List Int) {L : Int} (hL : 0 < L) (y : Int) : cnt (sh M) L ((y + 1) % L) = cnt M L (y % L) + if (y + 1) % L = 0 then 1 else 0 := by
  have e : cnt (M.map (· + 1)) L ((y + 1) % L) = cnt M L (y % L) := by
    unfold cnt
    rw [List.countP_map]
    congr 1
    funext m
    have : (m + 1) % L = (y + 1) % L ↔ m % L = y % L := Int.emod_add_cancel_right 1
    simp only [Function.comp, this]
  unfold sh
  rw [cnt_append, e, cnt_cons, cnt_nil, Int.zero_emod, Nat.zero_add]
  congr 1
  by_cases h : (y + 1) % L = 0
  · rw [if_pos h, if_pos h.symm]
  · rw [if_neg h, if_neg fun q => h q.symm]
theorem succ_quo {L : Int} (hL : 0 < L) (y : Int) : (y + 1) / L = y / L + if (y + 1) % L = 0 then 1 else 0 := by
  obtain ⟨h0, h1⟩ := rest_ok hL y
  have e := qr_of L y
  by_cases h : y % L + 1 = L
  · obtain ⟨a, b⟩ := qr (L := L) (q := y / L + 1) (r := 0) (x := y + 1) (Int.le_refl 0) hL (by rw [Int.mul_add, Int.mul_one]; omega)
    rw [a, if_pos b]
  · obtain ⟨a, b⟩ := qr (L := L) (q := y / L) (r := y % L + 1) (x := y + 1) (by omega) (by omega) (by omega)
    rw [a, if_neg (by omega)]
    omega
theorem IsCore.sh {C M : List Int} {L : Int} (hL : 0 < L) (c : IsCore C M L) : IsCore (sh C) (sh M) L := by
  refine ⟨(Beads.sh c.beads).nd, fun x => ?_⟩
  rw [mem_sh, c.mem]
  unfold Low
  obtain ⟨y, rfl⟩ : ∃ y, x = y + 1 := ⟨x - 1, by omega⟩
  rw [cnt_sh M hL y, succ_quo hL y, Int.add_sub_cancel]
  constructor
  · rintro (h | ⟨h0, h1⟩)
    · have e : y + 1 = 0 := h
      have e2 : (y + 1) % L = 0 := by rw [e]; exact Int.zero_emod L
      have e3 := succ_quo hL y
      simp only [if_pos e2] at e3 ⊢
      rw [e, Int.zero_ediv] at e3
      exact ⟨by omega, by omega⟩
    · refine ⟨by omega, ?_⟩
      split <;> omega
  · rintro ⟨h0, h1⟩
    by_cases e : y + 1 = 0
    · exact .inl e
    · refine .inr ⟨by omega, ?_⟩
      split at h1 <;> omega
theorem core_pad {L : Int} (hL : 0 < L) {C h : List Int} (H : IsHeap h) : ∀ d, IsCore C (pad h d) L → heapOf C = heapOf (lowsOf (marksOf h) L) := by
  have key : ∀ d, ∃ C, IsCore C (pad h d) L ∧ heapOf C = heapOf (lowsOf (marksOf h) L) := by
    intro d
    induction d with
    | zero =>
      rw [pad_zero]
      exact ⟨_, lowsOf_core hL _, rfl⟩
    | succ d ih =>
      obtain ⟨D, hD, e⟩ := ih
      rw [pad_succ]
      exact ⟨sh D, hD.sh hL, by rw [heapOf_sh hD.beads, e]⟩
  intro d hC
  obtain ⟨D, hD, e⟩ := key d
  rw [heapOf_congr (hC.perm hD (List.Perm.refl _)), e]

def coreOf (h : List Int) (L : Int) : List Int := heapOf (lowsOf (marksOf h) L)
def rimsIn (h : List Int) (L : Int) : Int := manyOf (marksOf h) L
theorem coreOf_heap {L : Int} (hL : 0 < L) (h : List Int) : IsHeap (coreOf h L) := (beads_pad (lowsOf_core hL _).beads).1
theorem core_of_beads {L : Int} (hL : 0 < L) {M C : List Int} (B : Beads M) (c : IsCore C M L) : coreOf (heapOf M) L = heapOf C := by
  obtain ⟨h1, h2, h3⟩ := beads_pad B
  exact (core_pad hL h1 _ (c.of_perm h3)).symm
theorem rims_sum {L : Int} (hL : 0 < L) {h : List Int} (H : IsHeap h) : L * rimsIn h L = h.sum - (coreOf h L).sum := by
  unfold rimsIn coreOf
  rw [many_sum, heapOf_sum (lowsOf_core hL _).beads, lowsOf_len, marksOf_sum, marksOf_len]
  omega
theorem rims_of_beads {L : Int} (hL : 0 < L) {M : List Int} (B : Beads M) : rimsIn (heapOf M) L = manyOf M L := by
  refine many_eq hL ?_
  rw [rims_sum hL (beads_pad B).1, core_of_beads hL B (lowsOf_core hL M), many_sum, heapOf_sum B, heapOf_sum (lowsOf_core hL M).beads, lowsOf_len]
  omega

def Closed (M : List Int) (L : Int) : Prop := ∀ m ∈ M, L ≤ m → m - L ∈ M
theorem IsCore.closed {C M : List Int} {L : Int} (hL : 0 < L) (c : IsCore C M L) : Closed C L := fun m hm hl => by
  obtain ⟨h0, h1⟩ := (c.mem m).mp hm
  obtain ⟨a, b⟩ := sub_len hL m
  refine (c.mem _).mpr ⟨by omega, ?_⟩
  rw [a, b]
  omega
/-- the quotients of those with the rest r -/
def cl (M : List Int) (L r : Int) : List Int := (M.filter fun m => decide (m % L = r)).map (· / L)
theorem cl_len (M : List Int) (L r : Int) : (cl M L r).length = cnt M L r := by
  unfold cl cnt
  rw [List.length_map, List.countP_eq_length_filter]
theorem mem_cl {M : List Int} {L r : Int} (hr : 0 ≤ r ∧ r < L) {q : Int} : q ∈ cl M L r ↔ L * q + r ∈ M := by
  unfold cl
  rw [List.mem_map]
  constructor
  · rintro ⟨m, hm, rfl⟩
    obtain ⟨h1, h2⟩ := List.mem_filter.mp hm
    have e := qr_of L m
    rw [of_decide_eq_true h2] at e
    rw [← e]
    exact h1
  · intro h
    obtain ⟨a, b⟩ := qr hr.1 hr.2 (rfl : L * q + r = L * q + r)
    exact ⟨_, List.mem_filter.mpr ⟨h, decide_eq_true b⟩, a⟩
theorem cl_beads {M : List Int} (B : Beads M) {L : Int} (hL : 0 < L) (r : Int) : Beads (cl M L r) := by
  refine ⟨?_, fun x hx => ?_⟩
  · unfold cl
    rw [List.nodup_iff_pairwise_ne, List.pairwise_map]
    have h1 : (M.filter fun m => decide (m % L = r)).Pairwise (· ≠ ·) := List.Pairwise.filter _ (List.nodup_iff_pairwise_ne.mp B.nd)
    have h2 : (M.filter fun m => decide (m % L = r)).Pairwise fun a b => a % L = r ∧ b % L = r := by
      refine List.pairwise_of_forall_mem_list fun a ha b hb => ?_
      exact ⟨of_decide_eq_true (List.mem_filter.mp ha).2, of_decide_eq_true (List.mem_filter.mp hb).2⟩
    refine List.Pairwise.imp₂ (fun a b h h' e => h ?_) h1 h2
    have ea := qr_of L a
    have eb := qr_of L b
    rw [ea, eb, e, h'.1, h'.2]
  · obtain ⟨m, hm, rfl⟩ := List.mem_map.mp hx
    exact quo_nn hL (B.nn m (List.mem_filter.mp hm).1)
theorem Closed.core {M : List Int} {L : Int} (hL : 0 < L) (B : Beads M) (c : Closed M L) : IsCore M M L := by
  refine ⟨B.nd, fun x => ?_⟩
  have hr := rest_ok hL x
  have Q := cl_beads B hL (x % L)
  have e := qr_of L x
  have h := closed_mem Q.nd Q.nn (fun q hq h1 => by
    rw [mem_cl hr] at hq ⊢
    have hb := c _ hq ?_
    · rw [Int.mul_sub, Int.mul_one]
      have e2 : L * q - L + x % L = L * q + x % L - L := by omega
      rw [e2]
      exact hb
    · have := Int.mul_le_mul_of_nonneg_left h1 (Int.le_of_lt hL)
      rw [Int.mul_one] at this
      omega) (x / L)
  rw [mem_cl hr, ← e, cl_len] at h
  rw [h]
  unfold Low
  constructor
  · rintro ⟨a, b⟩
    refine ⟨?_, b⟩
    have := Int.mul_nonneg (Int.le_of_lt hL) a
    omega
  · rintro ⟨a, b⟩
    exact ⟨quo_nn hL a, b⟩
theorem Closed.many {M : List Int} {L : Int} (hL : 0 < L) (B : Beads M) (c : Closed M L) : manyOf M L = 0 := by
  refine many_eq hL ?_
  rw [many_sum, perm_sum ((lowsOf_core hL M).perm (c.core hL B) (List.Perm.refl _))]
  omega
/-- one mark less the length -/
theorem take_beads {M N : List Int} {m L : Int} (hL : 0 < L) (B : Beads (m :: M)) (h1 : L ≤ m) (h2 : m - L ∉ M) : Beads ((m - L) :: M) := by
  refine ⟨List.nodup_cons.mpr ⟨h2, (List.nodup_cons.mp B.nd).2⟩, fun x hx => ?_⟩
  rcases List.mem_cons.mp hx with e | e
  · omega
  · exact B.nn x (List.mem_cons_of_mem _ e)
theorem take_low {M : List Int} {m L : Int} (hL : 0 < L) (x : Int) : Low ((m - L) :: M) L x ↔ Low (m :: M) L x := by
  unfold Low
  rw [cnt_cons, cnt_cons, (sub_len hL m).2]
theorem take_many {M : List Int} {m L : Int} (hL : 0 < L) : manyOf ((m - L) :: M) L = manyOf (m :: M) L - 1 := by
  refine many_eq hL ?_
  have p : (lowsOf ((m - L) :: M) L).Perm (lowsOf (m :: M) L) :=
    perm_of_mem (lowsOf_core hL _).nd (lowsOf_core hL _).nd fun x => by rw [(lowsOf_core hL _).mem, (lowsOf_core hL _).mem, take_low hL]
  rw [Int.mul_sub, many_sum, many_sum, perm_sum p, List.sum_cons, List.sum_cons]
  omega
theorem many_nn {L : Int} (hL : 0 < L) : ∀ (n : Nat) (M : List Int), Beads M → M.sum.toNat < n → 0 ≤ manyOf M L ∧ (manyOf M L = 0 → Closed M L) := by
  intro n
  induction n with
  | zero => intro M _ h; omega
  | succ n ih =>
    intro M B hs
    by_cases hc : Closed M L
    · rw [hc.many hL B]
      exact ⟨Int.le_refl 0, fun _ => hc⟩
    · obtain ⟨m, hm, h1, h2⟩ : ∃ m, m ∈ M ∧ L ≤ m ∧ m - L ∉ M := Classical.byContradiction fun q => hc fun m hm hl => Classical.byContradiction fun h => q ⟨m, hm, hl, h⟩
      have p := List.perm_cons_erase hm
      have B1 := B.perm p
      have h3 : m - L ∉ M.erase m := fun h => h2 (List.mem_of_mem_erase h)
      have B2 := take_beads (N := M) hL B1 h1 h3
      have hsum : M.sum = m + (M.erase m).sum := by rw [perm_sum p, List.sum_cons]
      have nn : ∀ l : List Int, (∀ x ∈ l, 0 ≤ x) → 0 ≤ l.sum := by
        intro l
        induction l with
        | nil => intro _; exact Int.le_refl 0
        | cons y r ih =>
          intro h
          have := ih fun z hz => h z (List.mem_cons_of_mem _ hz)
          have := h y List.mem_cons_self
          rw [List.sum_cons]
          omega
      have := nn _ fun x hx => B1.nn x (List.mem_cons_of_mem _ hx)
      have ih' := ih _ B2 (by rw [List.sum_cons]; omega)
      rw [take_many hL] at ih'
      rw [many_congr hL p]
      exact ⟨by omega, fun q => absurd ih'.1 (by omega)⟩
theorem many_ge {L : Int} (hL : 0 < L) {M : List Int} (B : Beads M) : 0 ≤ manyOf M L := (many_nn hL _ M B (Nat.lt_succ_self _)).1
theorem many_zero {L : Int} (hL : 0 < L) {M : List Int} (B : Beads M) : manyOf M L = 0 ↔ Closed M L := ⟨(many_nn hL _ M B (Nat.lt_succ_self _)).2, fun c => c.many hL B⟩

/-- a mark at a row gone down by the length -/
def dropAt (M : List Int) (i : Nat) (L : Int) : List Int := M.set i (M.getD i 0 - L)
def behindOf (h : List Int) (L : Int) (i : Nat) : List Int := heapOf (dropAt (marksOf h) i L)
/-- a row at which a rim can be taken off -/
def IsRim (M : List Int) (L : Int) (i : Nat) : Prop := ∃ m, M[i]? = some m ∧ L ≤ m ∧ m - L ∉ M
theorem drop_perm {M : List Int} {i : Nat} {m : Int} (h : M[i]? = some m) (L : Int) : M.Perm (m :: M.eraseIdx i) ∧ (dropAt M i L).Perm ((m - L) :: M.eraseIdx i) := by
  have hi : i < M.length := (List.getElem?_eq_some_iff.mp h).1
  have em : M.getD i 0 = m := by
    rw [List.getD_eq_getElem?_getD, h]
    rfl
  unfold dropAt
  rw [em]
  have e1 : M = M.take i ++ m :: M.drop (i + 1) := by
    have h3 := (List.getElem?_eq_some_iff.mp h).2
    rw [← h3, ← List.drop_eq_getElem_cons hi, List.take_append_drop]
  have e2 : M.set i (m - L) = M.take i ++ (m - L) :: M.drop (i + 1) := List.set_eq_take_append_cons_drop ▸ by simp [hi]
  rw [e2, List.eraseIdx_eq_take_drop_succ]
  refine ⟨?_, List.perm_middle⟩
  exact (List.Perm.of_eq e1).trans List.perm_middle
end Rh

namespace Rh

/-- the rows at which a rim can be taken off, by the marks -/
def rimsM (M : List Int) (L : Int) : List Int := M.zipIdx.filterMap fun p => if L ≤ p.1 ∧ p.1 - L ∉ M then some ((p.2 : Nat) : Int) else none
def rimsH (h : List Int) (L : Int) : List Int := rimsM (marksOf h) L
theorem rimsM_len (M : List Int) (L : Int) : (rimsM M L).length ≤ M.length := by
  unfold rimsM
  refine Nat.le_trans (List.length_filterMap_le _ _) ?_
  rw [List.length_zipIdx]
  exact Nat.le_refl _
theorem mem_rimsM {M : List Int} {L r : Int} : r ∈ rimsM M L ↔ ∃ i : Nat, r = i ∧ IsRim M L i := by
  unfold rimsM
  rw [List.mem_filterMap]
  constructor
  · rintro ⟨⟨m, i⟩, hm, h⟩
    split at h
    · rename_i c
      cases h
      have h2 := List.mem_zipIdx_iff_getElem?.mp hm
      exact ⟨i, rfl, m, h2, c.1, c.2⟩
    · cases h
  · rintro ⟨i, rfl, m, h1, h2, h3⟩
    exact ⟨(m, i), List.mem_zipIdx_iff_getElem?.mpr h1, if_pos ⟨h2, h3⟩⟩
theorem heapOf_len (M : List Int) : (heapOf M).length ≤ M.length := by
  unfold heapOf
  refine Nat.le_trans (List.length_filter_le _ _) ?_
  rw [rowsOf_len, (sortD_perm M).length_eq]
  exact Nat.le_refl _
theorem rim_lt {M : List Int} {L : Int} {i : Nat} (h : IsRim M L i) : i < M.length := by
  obtain ⟨m, h1, _⟩ := h
  exact (List.getElem?_eq_some_iff.mp h1).1
theorem dropAt_len (M : List Int) (i : Nat) (L : Int) : (dropAt M i L).length = M.length := by simp [dropAt]

theorem drop_beads {M : List Int} {L : Int} (hL : 0 < L) (B : Beads M) {i : Nat} (hr : IsRim M L i) : Beads (dropAt M i L) := by
  obtain ⟨m, h1, h2, h3⟩ := hr
  obtain ⟨p, q⟩ := drop_perm h1 L
  have h4 : m - L ∉ M.eraseIdx i := fun h => h3 (p.mem_iff.mpr (List.mem_cons_of_mem _ h))
  exact (take_beads (N := M) hL (B.perm p) h2 h4).perm q.symm
theorem behind_ok {h : List Int} {L : Int} {i : Nat} (H : IsHeap h) (hL : 0 < L) (hr : IsRim (marksOf h) L i) :
    IsHeap (behindOf h L i) ∧ (behindOf h L i).length ≤ h.length ∧ coreOf (behindOf h L i) L = coreOf h L ∧ rimsIn (behindOf h L i) L = rimsIn h L - 1 ∧ (behindOf h L i).sum = h.sum - L := by
  have B := marks_beads H
  have D := drop_beads hL B hr
  obtain ⟨m, h1, h2, h3⟩ := hr
  obtain ⟨p, q⟩ := drop_perm h1 L
  refine ⟨(beads_pad D).1, ?_, ?_, ?_, ?_⟩
  · refine Nat.le_trans (heapOf_len _) ?_
    rw [dropAt_len, marksOf_len]
    exact Nat.le_refl _
  · have c : IsCore (lowsOf (marksOf h) L) (dropAt (marksOf h) i L) L := by
      have c0 := (lowsOf_core hL (marksOf h)).of_perm p
      refine ⟨c0.nd, fun x => ?_⟩
      rw [c0.mem, Low.perm q, take_low hL]
    exact core_of_beads hL D c
  · show rimsIn (heapOf _) L = manyOf _ L - 1
    rw [rims_of_beads hL D, many_congr hL q, take_many hL, ← many_congr hL p]
  · show (heapOf _).sum = _
    rw [heapOf_sum D, dropAt_len, perm_sum q, List.sum_cons]
    have e := perm_sum p
    rw [List.sum_cons] at e
    have e2 := marksOf_sum h
    rw [marksOf_len]
    omega
theorem no_rims {M : List Int} {L : Int} : rimsM M L = [] ↔ Closed M L := by
  constructor
  · intro h m hm hl
    refine Classical.byContradiction fun q => ?_
    obtain ⟨i, hi⟩ := List.mem_iff_getElem?.mp hm
    have : ((i : Nat) : Int) ∈ rimsM M L := mem_rimsM.mpr ⟨i, rfl, m, hi, hl, q⟩
    rw [h] at this
    cases this
  · intro c
    cases e : rimsM M L with
    | nil => rfl
    | cons r s =>
      obtain ⟨i, _, m, h1, h2, h3⟩ := mem_rimsM.mp (show r ∈ rimsM M L by rw [e]; exact List.mem_cons_self)
      exact absurd (c m (List.mem_of_getElem? h1) h2) h3
theorem rims_none {h : List Int} {L : Int} (H : IsHeap h) (hL : 0 < L) : rimsH h L = [] ↔ rimsIn h L = 0 := by
  unfold rimsH rimsIn
  rw [no_rims, many_zero hL (marks_beads H)]
theorem rims_nn {h : List Int} {L : Int} (H : IsHeap h) (hL : 0 < L) : 0 ≤ rimsIn h L := many_ge hL (marks_beads H)
theorem core_self {h : List Int} {L : Int} (H : IsHeap h) (hL : 0 < L) (e : rimsIn h L = 0) : coreOf h L = h := by
  have c := (many_zero hL (marks_beads H)).mp e
  unfold coreOf
  rw [heapOf_congr ((lowsOf_core hL _).perm (c.core hL (marks_beads H)) (List.Perm.refl _)), heapOf_marks H]
theorem core_core {h : List Int} {L : Int} (H : IsHeap h) (hL : 0 < L) : coreOf (coreOf h L) L = coreOf h L ∧ rimsIn (coreOf h L) L = 0 := by
  have c := lowsOf_core hL (marksOf h)
  have cc := c.closed hL
  refine ⟨core_of_beads hL c.beads (cc.core hL c.beads), ?_⟩
  show rimsIn (heapOf _) L = 0
  rw [rims_of_beads hL c.beads, cc.many hL c.beads]
theorem coreOf_len {h : List Int} {L : Int} : (coreOf h L).length ≤ h.length := by
  refine Nat.le_trans (heapOf_len _) ?_
  rw [lowsOf_len, marksOf_len]
  exact Nat.le_refl _

structure Tally (T : List (Int × Nat)) (M : List Int) (L : Int) : Prop where
  nd : (T.map (·.1)).Nodup
  mem : ∀ r c, (r, c) ∈ T ↔ c = cnt M L r ∧ 0 < c
def steps (L r : Int) (c : Nat) : List Int := (List.range c).map fun (k : Nat) => r + L * (k : Int)
def flat (L : Int) (T : List (Int × Nat)) : List Int := T.flatMap fun p => steps L p.1 p.2
theorem cnt_pos {M : List Int} {L r : Int} (h : 0 < cnt M L r) : ∃ m, m ∈ M ∧ m % L = r := by
  unfold cnt at h
  obtain ⟨m, h1, h2⟩ := List.countP_pos_iff.mp h
  exact ⟨m, h1, of_decide_eq_true h2⟩
theorem Tally.rest {T : List (Int × Nat)} {M : List Int} {L : Int} (hL : 0 < L) (t : Tally T M L) {r : Int} {c : Nat} (h : (r, c) ∈ T) : 0 ≤ r ∧ r < L := by
  obtain ⟨h1, h2⟩ := (t.mem r c).mp h
  rw [h1] at h2
  obtain ⟨m, _, e⟩ := cnt_pos h2
  have := rest_ok hL m
  omega
theorem mem_steps {L r x : Int} {c : Nat} (hr : 0 ≤ r ∧ r < L) : x ∈ steps L r c ↔ 0 ≤ x ∧ x % L = r ∧ x / L < c := by
  unfold steps
  rw [List.mem_map]
  constructor
  · rintro ⟨k, hk, rfl⟩
    have hk := List.mem_range.mp hk
    obtain ⟨a, b⟩ := qr hr.1 hr.2 (show r + L * (k : Int) = L * k + r by omega)
    have := Int.mul_nonneg (show 0 ≤ L by omega) (Int.natCast_nonneg k)
    exact ⟨by omega, b, by omega⟩
  · rintro ⟨h0, h1, h2⟩
    have hq := quo_nn (show 0 < L by omega) h0
    refine ⟨(x / L).toNat, List.mem_range.mpr (by omega), ?_⟩
    have e := qr_of L x
    rw [Int.toNat_of_nonneg hq]
    omega
theorem steps_nd {L r : Int} (hL : 0 < L) (c : Nat) : (steps L r c).Nodup := by
  unfold steps
  rw [List.nodup_iff_pairwise_ne, List.pairwise_map]
  refine List.Pairwise.imp (fun h e => h ?_) (List.nodup_iff_pairwise_ne.mp List.nodup_range)
  rename_i a b
  have : L * (a : Int) = L * (b : Int) := by omega
  have := many_eq hL this
  omega
theorem flat_core {T : List (Int × Nat)} {M : List Int} {L : Int} (hL : 0 < L) (t : Tally T M L) : IsCore (flat L T) M L := by
  refine ⟨?_, fun x => ?_⟩
  · have : ∀ S : List (Int × Nat), (S.map (·.1)).Nodup → (∀ p ∈ S, 0 ≤ p.1 ∧ p.1 < L) → (flat L S).Nodup := by
      intro S
      induction S with
      | nil => intro _ _; exact List.nodup_nil
      | cons p S ih =>
        intro h1 h2
        obtain ⟨h3, h4⟩ := List.nodup_cons.mp h1
        show (steps L p.1 p.2 ++ flat L S).Nodup
        refine List.nodup_append.mpr ⟨steps_nd hL _, ih h4 fun q hq => h2 q (List.mem_cons_of_mem _ hq), fun x hx y hy e => ?_⟩
        subst e
        obtain ⟨_, e1, _⟩ := (mem_steps (h2 p List.mem_cons_self)).mp hx
        obtain ⟨q, hq, hy⟩ := List.mem_flatMap.mp hy
        obtain ⟨_, e2, _⟩ := (mem_steps (h2 q (List.mem_cons_of_mem _ hq))).mp hy
        exact h3 (List.mem_map.mpr ⟨q, hq, e2.symm.trans e1⟩)
    exact this T t.nd fun p hp => t.rest hL hp
  · unfold flat Low
    rw [List.mem_flatMap]
    constructor
    · rintro ⟨p, hp, hx⟩
      obtain ⟨h0, h1, h2⟩ := (mem_steps (t.rest hL hp)).mp hx
      obtain ⟨h3, _⟩ := (t.mem p.1 p.2).mp hp
      refine ⟨h0, ?_⟩
      rw [h1, ← h3]
      exact h2
    · rintro ⟨h0, h1⟩
      have hq := quo_nn hL h0
      have hc : (x % L, cnt M L (x % L)) ∈ T := (t.mem _ _).mpr ⟨rfl, by omega⟩
      exact ⟨_, hc, (mem_steps (t.rest hL hc)).mpr ⟨h0, rfl, h1⟩⟩
theorem flat_core_of {T : List (Int × Nat)} {h : List Int} {L : Int} (hL : 0 < L) (t : Tally T (marksOf h) L) : heapOf (flat L T) = coreOf h L :=
  heapOf_congr ((flat_core hL t).perm (lowsOf_core hL _) (List.Perm.refl _))
theorem flat_len {T : List (Int × Nat)} {M : List Int} {L : Int} (hL : 0 < L) (t : Tally T M L) : (flat L T).length = M.length := by
  rw [((flat_core hL t).perm (lowsOf_core hL _) (List.Perm.refl _)).length_eq, lowsOf_len]
/-- the sum of the first quotients: c * (c - 1) // 2 -/
theorem tri_eq : ∀ c : Nat, ((c : Int) * ((c : Int) - 1)) / 2 = tri c
  | 0 => rfl
  | c + 1 => by
    have ih := tri_eq c
    show ((c + 1 : Nat) : Int) * (((c + 1 : Nat) : Int) - 1) / 2 = tri c + (c : Int)
    have e : ((c + 1 : Nat) : Int) * (((c + 1 : Nat) : Int) - 1) = (c : Int) * ((c : Int) - 1) + (c : Int) * 2 := by
      have e1 : ((c + 1 : Nat) : Int) = (c : Int) + 1 := by omega
      rw [e1, Int.add_sub_cancel, Int.add_mul, Int.mul_sub, Int.one_mul, Int.mul_one]
      omega
    rw [e, Int.add_mul_ediv_right _ _ (by omega), ih]
theorem steps_sum (L r : Int) : ∀ c : Nat, (steps L r c).sum = r * c + L * tri c
  | 0 => by simp [steps, tri]
  | c + 1 => by
    have ih := steps_sum L r c
    unfold steps at ih ⊢
    rw [List.range_succ, List.map_append, List.sum_append, ih]
    show r * c + L * tri c + (r + L * (c : Int) + 0) = r * ((c + 1 : Nat) : Int) + L * (tri c + (c : Int))
    have e1 : ((c + 1 : Nat) : Int) = (c : Int) + 1 := by omega
    rw [e1, Int.mul_add, Int.mul_add, Int.mul_one]
    omega
def lowSum (T : List (Int × Nat)) : Int := (T.map fun p => tri p.2).sum
theorem flat_sum (L : Int) : ∀ T : List (Int × Nat), (flat L T).sum = (T.map fun p => p.1 * (p.2 : Int)).sum + L * lowSum T
  | [] => by simp [flat, lowSum]
  | p :: T => by
    have ih := flat_sum L T
    show (steps L p.1 p.2 ++ flat L T).sum = (p.1 * (p.2 : Int) + (T.map fun p => p.1 * (p.2 : Int)).sum) + L * (tri p.2 + lowSum T)
    rw [List.sum_append, steps_sum, ih, Int.mul_add]
    omega
theorem sum_split (f : Int → Int) (c : Int → Bool) : ∀ M : List Int, (M.map f).sum = ((M.filter c).map f).sum + ((M.filter fun m => !c m).map f).sum
  | [] => rfl
  | m :: M => by
    have ih := sum_split f c M
    rw [List.map_cons, List.sum_cons, List.filter_cons, List.filter_cons]
    cases h : c m
    · simp
      omega
    · simp
      omega
theorem rests_sum {L : Int} : ∀ (T : List (Int × Nat)) (M : List Int), Tally T M L → (M.map (· % L)).sum = (T.map fun p => p.1 * (p.2 : Int)).sum
  | [], M, t => by
    have : M = [] := by
      cases M with
      | nil => rfl
      | cons m r =>
        have h : ((m % L), cnt (m :: r) L (m % L)) ∈ ([] : List (Int × Nat)) := (t.mem _ _).mpr ⟨rfl, by rw [cnt_cons, if_pos rfl]; omega⟩
        cases h
    rw [this]
    rfl
  | (s, c) :: T, M, t => by
    obtain ⟨h1, h2⟩ := List.nodup_cons.mp t.nd
    have e : ∀ r, r ≠ s → cnt (M.filter fun m => !decide (m % L = s)) L r = cnt M L r := fun r hr => by
      unfold cnt
      rw [List.countP_filter]
      refine List.countP_congr fun m _ => ?_
      simp only [Bool.and_eq_true, decide_eq_true_eq, Bool.not_eq_true', decide_eq_false_iff_not]
      constructor
      · exact fun h => h.1
      · exact fun h => ⟨h, by omega⟩
    have e0 : cnt (M.filter fun m => !decide (m % L = s)) L s = 0 := by
      unfold cnt
      rw [List.countP_filter, List.countP_eq_zero]
      intro m _
      simp
    have t' : Tally T (M.filter fun m => !decide (m % L = s)) L := by
      refine ⟨h2, fun r d => ?_⟩
      by_cases hr : r = s
      · subst hr
        rw [e0]
        constructor
        · intro hm
          exact absurd (List.mem_map.mpr ⟨_, hm, rfl⟩) h1
        · rintro ⟨a, b⟩
          omega
      · rw [e r hr, ← t.mem]
        constructor
        · exact fun h => List.mem_cons_of_mem _ h
        · intro h
          rcases List.mem_cons.mp h with q | q
          · exact absurd (congrArg Prod.fst q) hr
          · exact q
    have ih := rests_sum T _ t'
    rw [sum_split _ (fun m => decide (m % L = s)), ih]
    have hc : c = cnt M L s := ((t.mem s c).mp List.mem_cons_self).1
    have ef : ∀ N : List Int, (∀ m ∈ N, m % L = s) → (N.map (· % L)).sum = s * (N.length : Int) := by
      intro N
      induction N with
      | nil => intro _; simp
      | cons m N ih =>
        intro h
        have e1 := ih fun x hx => h x (List.mem_cons_of_mem _ hx)
        have e2 := h m List.mem_cons_self
        rw [List.map_cons, List.sum_cons, e1, e2, List.length_cons]
        have e3 : ((N.length + 1 : Nat) : Int) = (N.length : Int) + 1 := by omega
        rw [e3, Int.mul_add, Int.mul_one]
        omega
    rw [ef _ fun m hm => of_decide_eq_true (List.mem_filter.mp hm).2]
    have el : (M.filter fun m => decide (m % L = s)).length = c := by
      rw [hc]
      unfold cnt
      rw [List.countP_eq_length_filter]
    rw [el]
    rfl
theorem sum_qr (L : Int) : ∀ M : List Int, M.sum = L * (M.map (· / L)).sum + (M.map (· % L)).sum
  | [] => by simp
  | m :: M => by
    have ih := sum_qr L M
    have e := qr_of L m
    rw [List.sum_cons, List.map_cons, List.map_cons, List.sum_cons, List.sum_cons, Int.mul_add]
    omega
/-- how many rims, as the program reckons it -/
theorem many_tally {T : List (Int × Nat)} {M : List Int} {L : Int} (hL : 0 < L) (t : Tally T M L) : (M.map (· / L)).sum - lowSum T = manyOf M L := by
  refine many_eq hL ?_
  have e1 := sum_qr L M
  have e2 := rests_sum T M t
  have e3 := flat_sum L T
  have e4 := perm_sum ((flat_core hL t).perm (lowsOf_core hL M) (List.Perm.refl _))
  rw [many_sum, Int.mul_sub]
  omega
end Rh
namespace Rh
def insD (x : Int) : List Int → List Int
  | [] => [x]
  | y :: r => if y ≤ x then x :: y :: r else y :: insD x r
def isort : List Int → List Int
  | [] => []
  | x :: r => insD x (isort r)
theorem insD_perm (x : Int) : ∀ l : List Int, (insD x l).Perm (x :: l)
  | [] => List.Perm.refl _
  | y :: r => by
    unfold insD
    split
    · exact List.Perm.refl _
    · exact ((insD_perm x r).cons y).trans (List.Perm.swap x y r)
theorem insD_falls (x : Int) : ∀ l : List Int, l.Pairwise (· ≥ ·) → (insD x l).Pairwise (· ≥ ·)
  | [], _ => List.pairwise_singleton _ _
  | y :: r, h => by
    obtain ⟨a, b⟩ := List.pairwise_cons.mp h
    unfold insD
    split
    · rename_i hxy
      refine List.pairwise_cons.mpr ⟨fun z hz => ?_, h⟩
      rcases List.mem_cons.mp hz with e | e
      · omega
      · have := a z e
        omega
    · refine List.pairwise_cons.mpr ⟨fun z hz => ?_, insD_falls x r b⟩
      rcases List.mem_cons.mp ((insD_perm x r).mem_iff.mp hz) with e | e
      · omega
      · exact a z e
theorem isort_perm : ∀ l : List Int, (isort l).Perm l
  | [] => List.Perm.refl _
  | x :: r => (insD_perm x _).trans ((isort_perm r).cons x)
theorem isort_falls : ∀ l : List Int, (isort l).Pairwise (· ≥ ·)
  | [] => List.Pairwise.nil
  | x :: r => insD_falls x _ (isort_falls r)
theorem sortD_isort (M : List Int) : sortD M = isort M := (sortD_eq (isort_perm M) (isort_falls M)).symm
theorem heapOf_run (M : List Int) : heapOf M = (rowsOf (isort M)).filter fun x => decide (0 < x) := by
  unfold heapOf
  rw [sortD_isort]
theorem coreOf_run (h : List Int) (L : Int) : coreOf h L = (rowsOf (isort (lowsOf (marksOf h) L))).filter fun x => decide (0 < x) := heapOf_run _
theorem isHeap_dec {h : List Int} (a : h.all (fun x => decide (0 < x)) = true) (b : h.Pairwise (· ≥ ·)) : IsHeap h := ⟨fun x hx => of_decide_eq_true (List.all_eq_true.mp a x hx), b⟩
theorem rims_dec {h : List Int} {L : Int} (H : IsHeap h) (hL : 0 < L) : (!decide (decide (rimsH h L = []) = decide (rimsIn h L = 0))) = false := by
  rw [Bool.not_eq_false', decide_eq_true_eq, decide_eq_decide]
  exact rims_none H hL
end Rh
namespace Rh
theorem lowsFrom_snoc (L n : Int) : ∀ (r pre : List Int), lowsFrom L pre (r ++ [n]) = lowsFrom L pre r ++ [n % L + L * (cnt (pre ++ r) L (n % L) : Int)]
  | [], pre => by
    rw [List.append_nil]
    rfl
  | m :: r, pre => by
    have ih := lowsFrom_snoc L n r (pre ++ [m])
    rw [List.append_assoc] at ih
    show _ :: lowsFrom L (pre ++ [m]) (r ++ [n]) = _ :: (lowsFrom L (pre ++ [m]) r ++ _)
    rw [ih]
    rfl
theorem lowsOf_snoc (L n : Int) (M : List Int) : lowsOf (M ++ [n]) L = lowsOf M L ++ [n % L + L * (cnt M L (n % L) : Int)] := lowsFrom_snoc L n M []
theorem manyFrom_snoc (L n : Int) : ∀ (r pre : List Int), manyFrom L pre (r ++ [n]) = manyFrom L pre r + (n / L - (cnt (pre ++ r) L (n % L) : Int))
  | [], pre => by
    rw [List.append_nil]
    show (n / L - (cnt pre L (n % L) : Int)) + 0 = 0 + _
    omega
  | m :: r, pre => by
    have ih := manyFrom_snoc L n r (pre ++ [m])
    rw [List.append_assoc] at ih
    show (m / L - (cnt pre L (m % L) : Int)) + manyFrom L (pre ++ [m]) (r ++ [n]) = (m / L - (cnt pre L (m % L) : Int)) + manyFrom L (pre ++ [m]) r + _
    rw [ih]
    simp only [List.singleton_append]
    omega
theorem manyOf_snoc (L n : Int) (M : List Int) : manyOf (M ++ [n]) L = manyOf M L + n / L - (cnt M L (n % L) : Int) := by
  have := manyFrom_snoc L n M []
  rw [List.nil_append] at this
  show manyFrom L [] (M ++ [n]) = manyFrom L [] M + n / L - _
  omega
theorem sum_nn : ∀ {l : List Int}, (∀ x ∈ l, 0 ≤ x) → 0 ≤ l.sum
  | [], _ => Int.le_refl 0
  | y :: r, h => by
    have := sum_nn fun z hz => h z (List.mem_cons_of_mem _ hz)
    have := h y List.mem_cons_self
    rw [List.sum_cons]
    omega
theorem rims_le {h : List Int} {L : Int} (H : IsHeap h) (hL : 0 < L) : 0 ≤ rimsIn h L ∧ rimsIn h L ≤ h.sum := by
  have h1 := rims_sum hL H
  have h2 := rims_nn H hL
  have h3 := sum_nn fun x hx => Int.le_of_lt ((coreOf_heap hL h).pos x hx)
  refine ⟨h2, ?_⟩
  have : 1 * rimsIn h L ≤ L * rimsIn h L := Int.mul_le_mul_of_nonneg_right (by omega) h2
  omega
end Rh

namespace Rh
open PySem PySem.Spec PyProof.Rows L2 Evl

structure Dfn (P : Program) (w : World) (K : PySem.W.Frag) (mg : Str → Option Value) (base : Heap) (CX : CXT) (k : Nat) (x : Str) (f : Addr) (fd : FuncData) (ps : List Str) (sp : Sp) : Prop where
  ok : FnOk P w K mg base CX k f fd ps sp
  kp : PySem.W.keepIn K (.ref f) = true
  bd : Binds K fd ps []
  gl : mg x = some (.ref f)
/-- the built-in names that the program has not bound anew -/
structure Bl (mg : Str → Option Value) : Prop where
  len : mg "len" = none
  sum : mg "sum" = none
  all : mg "all" = none
  sorted : mg "sorted" = none
  isinstance : mg "isinstance" = none
  enumerate : mg "enumerate" = none
  range : mg "range" = none
  list : mg "list" = none
  max : mg "max" = none
  min : mg "min" = none
  abs : mg "abs" = none
  int : mg "int" = none
  bool : mg "bool" = none
theorem pe_dfn {X : Cx} {CX : CXT} {k j : Nat} {f : Addr} {fd : FuncData} {ps : List Str} {sp : Sp} {E : XK} {x : Str} {p pos : Pos} {e : Expr} {es : List Expr} {t : TA}
    (D : Dfn X.prog X.w X.K X.mg X.base CX j x f fd ps sp) (hr : Room k X.A) (hj : j ≤ k) (hg : Gl X x) (hx : Passes CX X E) (ha : PA X (e :: es) t)
    (hd : (x == ("__debug__" : Str)) = false := by decide)
    (he : starEach (e :: es) X.env = (false, eval e X.env) :: starEach es X.env := by rfl) (hpl : (backTo pos (starEach es X.env)).any (·.1) = false := by rfl) :
    PE X (.Call (.Name x p) (e :: es) [] pos) (tCall sp [] E t) :=
  pe_call D.ok (hr.mono hj) hg D.gl D.kp D.bd .nil hx ha (hdb := hd) (he := he) (hpl := hpl)

section
variable (K : PySem.W.Frag)
/-- (a list of ints) -/
def spL (Pre : List Int → Prop) (R : List Int → Hp → VK → Prop) : Sp := fun vs H Q _ => ∃ (a : Addr) (ns : List Int), vs = [.ref a] ∧ SqL K H a (ns.map V.int) ∧ Pre ns ∧ R ns H Q
/-- (a list of ints, an int) -/
def spLi (Pre : List Int → Int → Prop) (R : List Int → Int → Hp → VK → Prop) : Sp := fun vs H Q _ => ∃ (a : Addr) (ns : List Int) (i : Int), vs = [.ref a, .int i] ∧ SqL K H a (ns.map V.int) ∧ Pre ns i ∧ R ns i H Q
def spLii (Pre : List Int → Int → Int → Prop) (R : List Int → Int → Int → Hp → VK → Prop) : Sp := fun vs H Q _ => ∃ (a : Addr) (ns : List Int) (i j : Int), vs = [.ref a, .int i, .int j] ∧ SqL K H a (ns.map V.int) ∧ Pre ns i j ∧ R ns i j H Q
def spi (Pre : Int → Prop) (R : Int → Hp → VK → Prop) : Sp := fun vs H Q _ => ∃ (i : Int), vs = [.int i] ∧ Pre i ∧ R i H Q
def spiii (Pre : Int → Int → Int → Prop) (R : Int → Int → Int → Hp → VK → Prop) : Sp := fun vs H Q _ => ∃ (i j l : Int), vs = [.int i, .int j, .int l] ∧ Pre i j l ∧ R i j l H Q
end
abbrev RI (ns : List Int) : Hp → VK → Prop := RetL (ns.map V.int)
section
variable {K : PySem.W.Frag} {H : Hp} {a : Addr} {ns xs : List Int} {i j l : Int} {v : V}
theorem go_L {Pre R} (hs : SqL K H a (ns.map V.int)) (hp : Pre ns) (hR : R ns = RI xs) : SpL (spL K Pre R) [.ref a] H (xs.map V.int) := fun _ e Q q E => ⟨a, ns, rfl, ex_l e hs, hp, by rw [hR]; exact q⟩
theorem go_Lv {Pre R} (hs : SqL K H a (ns.map V.int)) (hp : Pre ns) (hR : R ns = RetV v) : SpV (spL K Pre R) [.ref a] H v := fun _ e Q q E => ⟨a, ns, rfl, ex_l e hs, hp, by rw [hR]; exact q⟩
theorem go_Li {Pre R} (hs : SqL K H a (ns.map V.int)) (hp : Pre ns i) (hR : R ns i = RI xs) : SpL (spLi K Pre R) [.ref a, .int i] H (xs.map V.int) := fun _ e Q q E => ⟨a, ns, i, rfl, ex_l e hs, hp, by rw [hR]; exact q⟩
theorem go_Liv {Pre R} (hs : SqL K H a (ns.map V.int)) (hp : Pre ns i) (hR : R ns i = RetV v) : SpV (spLi K Pre R) [.ref a, .int i] H v := fun _ e Q q E => ⟨a, ns, i, rfl, ex_l e hs, hp, by rw [hR]; exact q⟩
theorem go_Lii {Pre R} (hs : SqL K H a (ns.map V.int)) (hp : Pre ns i j) (hR : R ns i j = RI xs) : SpL (spLii K Pre R) [.ref a, .int i, .int j] H (xs.map V.int) := fun _ e Q q E => ⟨a, ns, i, j, rfl, ex_l e hs, hp, by rw [hR]; exact q⟩
theorem go_Liiv {Pre R} (hs : SqL K H a (ns.map V.int)) (hp : Pre ns i j) (hR : R ns i j = RetV v) : SpV (spLii K Pre R) [.ref a, .int i, .int j] H v := fun _ e Q q E => ⟨a, ns, i, j, rfl, ex_l e hs, hp, by rw [hR]; exact q⟩
theorem go_i {Pre R} (hp : Pre i) (hR : R i = RetV v) : SpV (spi Pre R) [.int i] H v := fun _ e Q q E => ⟨i, rfl, hp, by rw [hR]; exact q⟩
theorem go_iii {Pre R} (hp : Pre i j l) (hR : R i j l = RetV v) : SpV (spiii Pre R) [.int i, .int j, .int l] H v := fun _ e Q q E => ⟨i, j, l, rfl, hp, by rw [hR]; exact q⟩
end

section
variable {X : Cx} (K : PySem.W.Frag) (h : X.K = K)
include h
theorem k_len : CallR X (.builtin "len") (rLenS K) := by subst h; exact call_len_seq
theorem k_list : CallR X (.type "list") (rListS K) := by subst h; exact call_list_of
theorem k_sum (hc : X.calm = true) : CallR X (.builtin "sum") (rSum K) := by subst h; exact cr_sum hc
theorem k_max (hc : X.calm = true) : CallR X (.builtin "max") (rMax K) := by subst h; exact cr_max hc
theorem k_all (hc : X.calm = true) : CallR X (.builtin "all") (rAll K) := by subst h; exact cr_all hc
theorem k_isi : CallR X (.builtin "isinstance") (rIsi K) := by subst h; exact call_isi
theorem k_ixl : IxR X (rIxL K) := by subst h; exact ix_list
theorem k_ixt : IxR X (rIxT K) := by subst h; exact ix_tup
theorem k_sll : SlR X (rSlL K) := by subst h; exact sl_list
theorem k_in : OpR X (compareOp .In) (rIn K false) := by subst h; exact op_in_seq
theorem k_nin : OpR X (compareOp .NotIn) (rIn K true) := by subst h; exact op_notIn_seq
theorem k_eqD (hu : X.A.units + 64 < cLine) : OpR X (compareOp .Eq) (rEqD K) := by subst h; exact op_eqD hu
theorem k_neD (hu : X.A.units + 64 < cLine) : OpR X (compareOp .NotEq) (rNeD K) := by subst h; exact op_neD hu
theorem k_sorted {b : Bool} : CallRK X (.builtin "sorted") [Str.ofString "reverse"] (rSortedKw K b [.bl b]) := by subst h; exact cr_sortedRev
end

section
variable {K : PySem.W.Frag} {σ : L2.St} {H H' : Hp} {ta tb te tx tl : TE} {t u : TT} {x y z v : V} {i j : Int} {a : Addr} {ns ms : List Int}
theorem sq_map (h : H a = some (.lst (ns.map V.int))) : SqL K H a (ns.map V.int) := Or.inl (Or.inl h)
theorem ev_add (ha : Ev ta σ H (.int i)) (hb : Ev tb σ H (.int j)) : Ev (tOp (rI0 fun i j => .int (i + j)) ta tb) σ H (.int (i + j)) := ev_op ha hb rv_I0
theorem ev_sub (ha : Ev ta σ H (.int i)) (hb : Ev tb σ H (.int j)) : Ev (tOp (rI0 fun i j => .int (i - j)) ta tb) σ H (.int (i - j)) := ev_op ha hb rv_I0
theorem ev_mul (ha : Ev ta σ H (.int i)) (hb : Ev tb σ H (.int j)) (h : CMul i j) : Ev (tOp (rI CMul fun i j => .int (i * j)) ta tb) σ H (.int (i * j)) := ev_op ha hb (rv_I h)
theorem ev_mulW (ha : Ev ta σ H (.int i)) (hb : Ev tb σ H (.int j)) (h : IntMulOk i j) : Ev (tOp (rI IntMulOk fun i j => .int (i * j)) ta tb) σ H (.int (i * j)) := ev_op ha hb (rv_I h)
theorem ev_mod (ha : Ev ta σ H (.int i)) (hb : Ev tb σ H (.int j)) (h : 0 < j) : Ev (tOp (rI (fun _ j => 0 < j) fun i j => .int (i % j)) ta tb) σ H (.int (i % j)) := ev_op ha hb (rv_I h)
theorem ev_div (ha : Ev ta σ H (.int i)) (hb : Ev tb σ H (.int j)) (h : CDivW i j) : Ev (tOp (rI CDivW fun i j => .int (i / j)) ta tb) σ H (.int (i / j)) := ev_op ha hb (rv_I h)
theorem ev_pow (ha : Ev ta σ H (.int i)) (hb : Ev tb σ H (.int j)) (h : CPow i j) : Ev (tOp (rI CPow fun i j => .int (i ^ j.toNat)) ta tb) σ H (.int (i ^ j.toNat)) := ev_op ha hb (rv_I h)
theorem ev_neg (ha : Ev ta σ H (.int i)) : Ev (tUn (rU fun i => .int (-i)) ta) σ H (.int (-i)) := ev_un ha ru_neg
theorem ev_lt (ha : Ev ta σ H (.int i)) (hb : Ev tb σ H (.int j)) : Ev (tOp (rI0 fun i j => .bl (decide (i < j))) ta tb) σ H (.bl (decide (i < j))) := ev_op ha hb rv_I0
theorem ev_le (ha : Ev ta σ H (.int i)) (hb : Ev tb σ H (.int j)) : Ev (tOp (rI0 fun i j => .bl (decide (i ≤ j))) ta tb) σ H (.bl (decide (i ≤ j))) := ev_op ha hb rv_I0
theorem ev_gt (ha : Ev ta σ H (.int i)) (hb : Ev tb σ H (.int j)) : Ev (tOp (rI0 fun i j => .bl (decide (j < i))) ta tb) σ H (.bl (decide (j < i))) := ev_op ha hb rv_I0
theorem ev_ge (ha : Ev ta σ H (.int i)) (hb : Ev tb σ H (.int j)) : Ev (tOp (rI0 fun i j => .bl (decide (j ≤ i))) ta tb) σ H (.bl (decide (j ≤ i))) := ev_op ha hb rv_I0
theorem dec_i {i j : Int} : decide (V.int i = V.int j) = decide (i = j) := by
  rw [Bool.eq_iff_iff]
  simp
theorem ev_eqI (ha : Ev ta σ H (.int i)) (hb : Ev tb σ H (.int j)) : Ev (tOp rEq ta tb) σ H (.bl (decide (i = j))) := by
  rw [← dec_i]
  exact ev_op ha hb (rv_eq rfl)
theorem ev_neI (ha : Ev ta σ H (.int i)) (hb : Ev tb σ H (.int j)) : Ev (tOp rNe ta tb) σ H (.bl (!decide (i = j))) := by
  rw [← dec_i]
  exact ev_op ha hb (rv_ne rfl)
theorem dec_b {i j : Bool} : decide (V.bl i = V.bl j) = decide (i = j) := by
  rw [Bool.eq_iff_iff]
  simp
theorem ev_eqB {i j : Bool} (ha : Ev ta σ H (.bl i)) (hb : Ev tb σ H (.bl j)) : Ev (tOp rEq ta tb) σ H (.bl (decide (i = j))) := by
  rw [← dec_b]
  exact ev_op ha hb (rv_eq rfl)
theorem et_yes : EvT tYes σ H true := fun H1 _ _ q => q H1 (Ex.refl H1)
theorem atI_int {k : Nat} {n : Int} (h : ns[k]? = some n) : atI (ns.map V.int) (k : Int) = some (.int n) := atI_nat (by rw [List.getElem?_map, h]; rfl)
theorem ev_ix {k : Nat} {n : Int} (ha : Ev ta σ H (.ref a)) (hb : Ev tb σ H (.int (k : Int))) (hs : SqL K H a (ns.map V.int)) (h : ns[k]? = some n) : Ev (tOp (rIxL K) ta tb) σ H (.int n) :=
  ev_op ha hb (rv_ixL hs (atI_int h))
/-- op_mul without a bound that is said by powers of two -/
theorem op_mulO {X : Cx} : OpR X (binaryOp .Mult) (rI IntMulOk fun i j => .int (i * j)) := opI fun _ _ _ _ _ _ _ hc q => mul_int q hc

def dI (ns : List Int) : PyData := .list (ns.map PyData.int)
theorem dpAll_ints : ∀ ns : List Int, DpAll K H (ns.map V.int) (ns.map PyData.int)
  | [] => .nil
  | n :: r => .cons (.int n) (dpAll_ints r)
theorem dp_I (h : SqL K H a (ns.map V.int)) : Dp K H (.ref a) (dI ns) := .lst h (dpAll_ints ns)
theorem canLay_ints : ∀ ns : List Int, PyData.canLayAll0 (ns.map PyData.int) = true
  | [] => by simp only [List.map_nil, PyData.canLayAll0]
  | n :: r => by
    rw [List.map_cons]
    simp only [PyData.canLayAll0, PyData.canLay0, canLay_ints r, Bool.and_self]
theorem depth_ints : ∀ ns : List Int, PyData.depthAll (ns.map PyData.int) = 0
  | [] => by simp only [List.map_nil, PyData.depthAll]
  | n :: r => by
    rw [List.map_cons]
    simp only [PyData.depthAll, PyData.depth, depth_ints r, Nat.max_self]
theorem shaped_I (ns : List Int) : SeqAt.shaped (dI ns) = true := by
  unfold SeqAt.shaped dI
  simp only [PyData.canLay0, canLay_ints, PyData.depth, depth_ints, Bool.true_and]
  decide
theorem eqvAll_ints : ∀ ns ms : List Int, PyData.eqvAll (ns.map PyData.int) (ms.map PyData.int) = decide (ns = ms)
  | [], [] => by simp [PyData.eqvAll]
  | [], m :: s => by simp [PyData.eqvAll]
  | n :: r, [] => by simp [PyData.eqvAll]
  | n :: r, m :: s => by
    rw [List.map_cons, List.map_cons]
    simp only [PyData.eqvAll, PyData.eqv, eqvAll_ints r s]
    rw [Bool.eq_iff_iff]
    simp
theorem eqv_I (ns ms : List Int) : PyData.eqv (dI ns) (dI ms) = decide (ns = ms) := by
  unfold dI
  simp only [PyData.eqv]
  exact eqvAll_ints ns ms
theorem rv_eqI {b : Addr} (ha : SqL K H a (ns.map V.int)) (hb : SqL K H b (ms.map V.int)) : RV (rEqD K) (.ref a) (.ref b) H (.bl (decide (ns = ms))) := fun H1 e Q q =>
  ⟨_, _, dp_I (ex_l e ha), dp_I (ex_l e hb), shaped_I _, shaped_I _, by rw [eqv_I]; exact q H1 (Ex.refl H1)⟩
theorem rv_neI {b : Addr} (ha : SqL K H a (ns.map V.int)) (hb : SqL K H b (ms.map V.int)) : RV (rNeD K) (.ref a) (.ref b) H (.bl (!decide (ns = ms))) := fun H1 e Q q =>
  ⟨_, _, dp_I (ex_l e ha), dp_I (ex_l e hb), shaped_I _, shaped_I _, by rw [eqv_I]; exact q H1 (Ex.refl H1)⟩
theorem ev_eqL {b : Addr} (h1 : Ev ta σ H (.ref a)) (h2 : Ev tb σ H (.ref b)) (ha : SqL K H a (ns.map V.int)) (hb : SqL K H b (ms.map V.int)) : Ev (tOp (rEqD K) ta tb) σ H (.bl (decide (ns = ms))) := ev_op h1 h2 (rv_eqI ha hb)
theorem ev_neL {b : Addr} (h1 : Ev ta σ H (.ref a)) (h2 : Ev tb σ H (.ref b)) (ha : SqL K H a (ns.map V.int)) (hb : SqL K H b (ms.map V.int)) : Ev (tOp (rNeD K) ta tb) σ H (.bl (!decide (ns = ms))) := ev_op h1 h2 (rv_neI ha hb)
/-- the left one new -/
theorem ev_eqN {b : Addr} (h1 : EvL ta σ H (ns.map V.int)) (h2 : Ev tb σ H (.ref b)) (hb : SqL K H b (ms.map V.int)) : Ev (tOp (rEqD K) ta tb) σ H (.bl (decide (ns = ms))) :=
  ev_opL1 h1 (fun _ e => h2.mono e) fun _ _ hp e => rv_eqI (sq_map hp) (ex_l e hb)
theorem ev_neN {b : Addr} (h1 : EvL ta σ H (ns.map V.int)) (h2 : Ev tb σ H (.ref b)) (hb : SqL K H b (ms.map V.int)) : Ev (tOp (rNeD K) ta tb) σ H (.bl (!decide (ns = ms))) :=
  ev_opL1 h1 (fun _ e => h2.mono e) fun _ _ hp e => rv_neI (sq_map hp) (ex_l e hb)
/-- the right one new -/
theorem ev_eqM (h1 : Ev ta σ H (.ref a)) (h2 : EvL tb σ H (ms.map V.int)) (ha : SqL K H a (ns.map V.int)) : Ev (tOp (rEqD K) ta tb) σ H (.bl (decide (ns = ms))) :=
  ev_opL h1 h2 fun _ _ hp e => rv_eqI (ex_l e ha) (sq_map hp)
theorem ev_neM (h1 : Ev ta σ H (.ref a)) (h2 : EvL tb σ H (ms.map V.int)) (ha : SqL K H a (ns.map V.int)) : Ev (tOp (rNeD K) ta tb) σ H (.bl (!decide (ns = ms))) :=
  ev_opL h1 h2 fun _ _ hp e => rv_neI (ex_l e ha) (sq_map hp)
/-- both new -/
theorem ev_eqNN (h1 : EvL ta σ H (ns.map V.int)) (h2 : EvL tb σ H (ms.map V.int)) : Ev (tOp (rEqD K) ta tb) σ H (.bl (decide (ns = ms))) :=
  ev_opLL h1 h2 fun _ _ _ hp hq _ => rv_eqI (sq_map hp) (sq_map hq)
theorem ev_neNN (h1 : EvL ta σ H (ns.map V.int)) (h2 : EvL tb σ H (ms.map V.int)) : Ev (tOp (rNeD K) ta tb) σ H (.bl (!decide (ns = ms))) :=
  ev_opLL h1 h2 fun _ _ _ hp hq _ => rv_neI (sq_map hp) (sq_map hq)
end

section
variable {K : PySem.W.Frag} {σ : L2.St} {H H' : Hp} {ta tb te tx tl : TE} {t u : TT} {x y z v : V} {i j : Int} {a : Addr} {ns ms : List Int}
theorem ev_lenL (ha : Ev ta σ H (.ref a)) (h : SqL K H a (ns.map V.int)) : Ev (tCB (rLenS K) (tCons ta tNil)) σ H (.int (ns.length : Int)) := fun H1 e Q q =>
  ha H1 e _ fun H2 e2 => ⟨a, _, rfl, Or.inl (ex_l (e.trans e2) h), by rw [List.length_map]; exact q H2 e2⟩
theorem ev_lenX {xs : List V} (ha : Ev ta σ H (.ref a)) (h : SqL K H a xs) : Ev (tCB (rLenS K) (tCons ta tNil)) σ H (.int (xs.length : Int)) := fun H1 e Q q =>
  ha H1 e _ fun H2 e2 => ⟨a, _, rfl, Or.inl (ex_l (e.trans e2) h), q H2 e2⟩
theorem ev_lenNew {xs : List V} (ha : EvL ta σ H xs) : Ev (tCB (rLenS K) (tCons ta tNil)) σ H (.int (xs.length : Int)) := fun H1 e Q q =>
  ha H1 e _ fun p H2 _ e2 h2 => ⟨p, _, rfl, Or.inl (sq_of h2), q H2 e2⟩
theorem ev_sumL (ha : Ev ta σ H (.ref a)) (h : SqL K H a (ns.map V.int)) : Ev (tCB (rSum K) (tCons ta tNil)) σ H (.int ns.sum) := fun H1 e Q q =>
  ha H1 e _ fun H2 e2 => ⟨a, _, rfl, ex_l (e.trans e2) h, q H2 e2⟩
theorem ev_sumN (ha : EvL ta σ H (ns.map V.int)) : Ev (tCB (rSum K) (tCons ta tNil)) σ H (.int ns.sum) := fun H1 e Q q =>
  ha H1 e _ fun p H2 _ e2 h2 => ⟨p, _, rfl, sq_map h2, q H2 e2⟩
theorem ev_allN {bs : List Bool} (ha : EvL ta σ H (bs.map V.bl)) : Ev (tCB (rAll K) (tCons ta tNil)) σ H (.bl (bs.all id)) := fun H1 e Q q =>
  ha H1 e _ fun p H2 _ e2 h2 => ⟨p, _, rfl, Or.inl (Or.inl h2), q H2 e2⟩
theorem el_listL (ha : Ev ta σ H (.ref a)) (h : SqL K H a (ns.map V.int)) : EvL (tCB (rListS K) (tCons ta tNil)) σ H (ns.map V.int) := el_list ha h
end

section
variable {K : PySem.W.Frag} {σ : L2.St} {H H' : Hp} {ta tb te tx tl : TE} {t u : TT} {x y z v : V} {i j : Int} {a : Addr} {ns ms : List Int}
def Cg (H : Hp) (Dl : Addr) (ys : List V) (H' : Hp) : Prop := H Dl = none ∧ Ex H H' ∧ H' Dl = some (.lst ys)
theorem Cg.start {Dl : Addr} (h : H Dl = none) : Cg H Dl [] (upd H Dl (.lst [])) := ⟨h, Ex.new h, upd_same⟩
theorem Cg.new {Dl T : Addr} {ys : List V} {o : HO} (p : Cg H Dl ys H') (h : H' T = none) : Cg H Dl ys (upd H' T o) := ⟨p.1, p.2.1.trans (Ex.new h), Ex.new h _ _ p.2.2⟩
theorem cg_turn {σ2 : L2.St} {Dl : Addr} {ys : List V} {o : Option V} (p : Cg H Dl ys H') (hz : ys.length < 100000) (ht : EvT t σ2 H' o.isSome) (he : ∀ y, o = some y → Ev te σ2 H' y) :
    t σ2 H' fun b H3 => if b = true then te σ2 H3 fun y H4 => ∃ acc, H4 Dl = some (.lst acc) ∧ acc.length < sizeLine ∧ Cg H Dl (ys ++ o.toList) (upd H4 Dl (.lst (acc ++ [y]))) else Cg H Dl (ys ++ o.toList) H3 := by
  obtain ⟨p1, p2, p3⟩ := p
  refine ht H' (Ex.refl H') _ fun H3 e3 => ?_
  cases o with
  | none =>
    show Cg H Dl (ys ++ []) H3
    rw [List.append_nil]
    exact ⟨p1, p2.trans e3, e3 _ _ p3⟩
  | some y =>
    show te σ2 H3 fun y' H4 => ∃ acc, H4 Dl = some (.lst acc) ∧ acc.length < sizeLine ∧ Cg H Dl (ys ++ [y]) (upd H4 Dl (.lst (acc ++ [y'])))
    exact he y rfl H3 e3 _ fun H4 e4 => ⟨ys, e4 _ _ (e3 _ _ p3), sz_lt hz, p1, Ex.mut ((p2.trans e3).trans e4) p1, upd_same⟩
theorem take_fm {ι : Type} {its : List ι} {i : Nat} {it : ι} (F : ι → Option V) (h : its[i]? = some it) : (its.take (i + 1)).filterMap F = (its.take i).filterMap F ++ (F it).toList := by
  rw [List.take_add_one, h, List.filterMap_append]
  congr 1
theorem fm_len {ι : Type} (its : List ι) (F : ι → Option V) (i : Nat) : ((its.take i).filterMap F).length ≤ its.length := by
  refine Nat.le_trans (List.length_filterMap_le _ _) ?_
  rw [List.length_take]
  exact Nat.min_le_right _ _
/-- over a list -/
theorem el_cX {xs : List V} {k : Nat} {vs : List Nat} (F : V → Option V) (h : Ev tl σ H (.ref a)) (hx : SqL K H a xs) (hz : xs.length ≤ 50000) (hw : ∀ x, wipe ((wipe σ vs).set k (some x)) vs = wipe σ vs)
    (ht : ∀ x ∈ xs, EvT t ((wipe σ vs).set k (some x)) H (F x).isSome) (he : ∀ x ∈ xs, ∀ y, F x = some y → Ev te ((wipe σ vs).set k (some x)) H y) :
    EvL (tLc (iList K tl) (gName k) t te vs) σ H (xs.filterMap F) := fun H0 e Q q => h H0 e _ fun H1 e1 => ⟨a, rfl, ⟨xs, ex_l (e.trans e1) hx⟩, fun Dl hD =>
  lc_list (xs := xs) (fun i H' => Cg H1 Dl ((xs.take i).filterMap F) H') (Cg.start hD) (fun i H' _ p => ex_l ((e.trans e1).trans p.2.1) hx) (fun i x H' hi p => ⟨hw x, by
    have hm := List.mem_of_getElem? hi
    rw [take_fm F hi]
    exact cg_turn p (by have := fm_len xs F i; omega) ((ht x hm).mono ((e.trans e1).trans p.2.1)) fun y hy => (he x hm y hy).mono ((e.trans e1).trans p.2.1)⟩)
    (fun H' p => by
      rw [List.take_length] at p
      exact q Dl H' (fresh_back e1 p.1) (e1.trans p.2.1) p.2.2)⟩
/-- over a list of ints: which are taken, and what they give -/
theorem el_cL {β : Type} {k : Nat} {vs : List Nat} (enc : β → V) (F : Int → Option β) (h : Ev tl σ H (.ref a)) (hx : SqL K H a (ns.map V.int)) (hz : ns.length ≤ 50000) (hw : ∀ x, wipe ((wipe σ vs).set k (some x)) vs = wipe σ vs)
    (ht : ∀ n ∈ ns, EvT t ((wipe σ vs).set k (some (.int n))) H (F n).isSome) (he : ∀ n ∈ ns, ∀ y, F n = some y → Ev te ((wipe σ vs).set k (some (.int n))) H (enc y)) :
    EvL (tLc (iList K tl) (gName k) t te vs) σ H ((ns.filterMap F).map enc) := by
  have e : (ns.filterMap F).map enc = (ns.map V.int).filterMap fun v => match v with | .int n => (F n).map enc | _ => none := by
    rw [List.filterMap_map, List.map_filterMap]
    rfl
  rw [e]
  refine el_cX _ h hx (by rw [List.length_map]; exact hz) hw (fun x hm => ?_) fun x hm y hy => ?_
  · obtain ⟨n, hn, rfl⟩ := List.mem_map.mp hm
    have := ht n hn
    show EvT t _ H ((F n).map enc).isSome
    rw [Option.isSome_map]
    exact this
  · obtain ⟨n, hn, rfl⟩ := List.mem_map.mp hm
    have hy : (F n).map enc = some y := hy
    obtain ⟨b, hb, rfl⟩ := Option.map_eq_some_iff.mp hy
    exact he n hn b hb
theorem el_cLm {β : Type} {k : Nat} {vs : List Nat} (enc : β → V) (f : Int → β) (h : Ev tl σ H (.ref a)) (hx : SqL K H a (ns.map V.int)) (hz : ns.length ≤ 50000) (hw : ∀ x, wipe ((wipe σ vs).set k (some x)) vs = wipe σ vs)
    (he : ∀ n ∈ ns, Ev te ((wipe σ vs).set k (some (.int n))) H (enc (f n))) : EvL (tLc (iList K tl) (gName k) tYes te vs) σ H ((ns.map f).map enc) := by
  have e : ns.map f = ns.filterMap fun n => some (f n) := (congrFun (List.filterMap_eq_map (f := f)) ns).symm
  rw [e]
  exact el_cL enc _ h hx hz hw (fun _ _ => et_yes) fun n hn y hy => by
    cases hy
    exact he n hn
/-- over a new list -/
theorem EvL.asIter {xs : List V} {k : Nat} {vs : List Nat} {ys : List V} (h : EvL tl σ H xs) (hh : ∀ p H1, Ex H H1 → H1 p = some (.lst xs) → EvL (tLc (iList K (tC (.ref p))) (gName k) t te vs) σ H1 ys) : EvL (tLc (iList K tl) (gName k) t te vs) σ H ys := fun H0 e Q q =>
  h H0 e _ fun p H1 _ e1 hp => hh p H1 (e.trans e1) hp H1 (Ex.refl H1) Q fun p2 H2 hp2 e2 h2 => q p2 H2 (fresh_back e1 hp2) (e1.trans e2) h2
/-- for a, b in enumerate -/
theorem lc_enum {xs : List V} {g : TG} {vs : List Nat} {H1 : Hp} {D : Addr} {Qd : Hp → Prop} (Pv : Nat → Hp → Prop) (h0 : Pv 0 (upd H1 D (.lst []))) (hl : ∀ i H, i ≤ xs.length → Pv i H → SqL K H a xs)
    (hs : ∀ i x T H, xs[i]? = some x → Pv i H → H T = none → g (.ref T) (wipe σ vs) (upd H T (.tup [.int (i : Nat), x])) fun σ2 H2 => wipe σ2 vs = wipe σ vs ∧ t σ2 H2 fun b H3 =>
      if b = true then te σ2 H3 fun y H4 => ∃ acc, H4 D = some (.lst acc) ∧ acc.length < sizeLine ∧ Pv (i + 1) (upd H4 D (.lst (acc ++ [y]))) else Pv (i + 1) H3) (hd : ∀ H, Pv xs.length H → Qd H) :
    ∃ W : Nat → Nat → Hp → Prop, (∃ m, W 0 m (upd H1 D (.lst []))) ∧ ∀ i m H, W i m H →
      ((Ite K a).stop i H ∧ Qd H) ∨ ((Ite K a).go i H ∧ ∃ Nx : Hp → Prop, (∀ H', Nx H' → ∃ m', m' < m ∧ W (i + 1) m' H') ∧ ∀ x H', (Ite K a).yld i H x H' → g x (wipe σ vs) H' fun σ2 H2 => wipe σ2 vs = wipe σ vs ∧ t σ2 H2 fun b H3 =>
        if b = true then te σ2 H3 fun y H4 => ∃ acc, H4 D = some (.lst acc) ∧ acc.length < sizeLine ∧ Nx (upd H4 D (.lst (acc ++ [y]))) else Nx H3) := by
  refine ⟨fun i m H => m = xs.length - i ∧ i ≤ xs.length ∧ Pv i H, ⟨xs.length, by simp, Nat.zero_le _, h0⟩, ?_⟩
  rintro i m H ⟨rfl, hi, p⟩
  have q := hl i H hi p
  by_cases hlt : i < xs.length
  · refine .inr ⟨⟨xs, xs[i], q, by simp [hlt]⟩, Pv (i + 1), fun H' p' => ⟨xs.length - (i + 1), by omega, rfl, hlt, p'⟩, fun x H' y => ?_⟩
    obtain ⟨T, x, rfl, nT, rfl, y⟩ := y
    exact hs i x T _ (y xs q) p nT
  · have e : i = xs.length := by omega
    subst e
    exact .inl ⟨⟨xs, q, Nat.le_refl _⟩, hd H p⟩
abbrev g2 (K : PySem.W.Frag) (k1 k2 : Nat) : TG := gTup K 2 (gCons (gName k1) (gCons (gName k2) gNil))
theorem g2_go {k1 k2 : Nat} {T : Addr} {x y : V} {Q : L2.St → Hp → Prop} (h : H T = some (.tup [x, y])) (q : Q ((σ.set k1 (some x)).set k2 (some y)) H) : g2 K k1 k2 (.ref T) σ H Q :=
  ⟨T, [x, y], rfl, .inl (.inl h), rfl, x, [y], rfl, y, [], rfl, rfl, q⟩
theorem el_cEX {xs : List V} {k1 k2 : Nat} {vs : List Nat} (F : V × Nat → Option V) (h : Ev tl σ H (.ref a)) (hx : SqL K H a xs) (hz : xs.length ≤ 50000) (hw : ∀ x y, wipe (((wipe σ vs).set k1 (some x)).set k2 (some y)) vs = wipe σ vs)
    (ht : ∀ x i, xs[i]? = some x → EvT t (((wipe σ vs).set k1 (some (.int (i : Nat)))).set k2 (some x)) H (F (x, i)).isSome)
    (he : ∀ x i, xs[i]? = some x → ∀ y, F (x, i) = some y → Ev te (((wipe σ vs).set k1 (some (.int (i : Nat)))).set k2 (some x)) H y) :
    EvL (tLc (iEnum K (tCons tl tNil)) (g2 K k1 k2) t te vs) σ H (xs.zipIdx.filterMap F) := fun H0 e Q q => h H0 e _ fun H1 e1 => ⟨a, xs, rfl, ex_l (e.trans e1) hx, fun Dl hD =>
  lc_enum (xs := xs) (fun i H' => Cg H1 Dl ((xs.zipIdx.take i).filterMap F) H') (Cg.start hD) (fun i H' _ p => ex_l ((e.trans e1).trans p.2.1) hx) (fun i x T H' hi p nT => g2_go upd_same ⟨hw _ _, by
    have hm : xs.zipIdx[i]? = some (x, i) := by rw [List.getElem?_zipIdx, hi]; simp
    rw [take_fm F hm]
    have p' := p.new (o := .tup [.int (i : Nat), x]) nT
    exact cg_turn p' (by have := fm_len xs.zipIdx F i; rw [List.length_zipIdx] at this; omega) ((ht x i hi).mono ((e.trans e1).trans p'.2.1)) fun y hy => (he x i hi y hy).mono ((e.trans e1).trans p'.2.1)⟩)
    (fun H' p => by
      have hl : xs.zipIdx.take xs.length = xs.zipIdx := List.take_of_length_le (by rw [List.length_zipIdx]; exact Nat.le_refl _)
      rw [hl] at p
      exact q Dl H' (fresh_back e1 p.1) (e1.trans p.2.1) p.2.2)⟩
theorem zipIdx_map {α β : Type} (f : α → β) (l : List α) : (l.map f).zipIdx = l.zipIdx.map fun p => (f p.1, p.2) := by
  rw [List.zipIdx_map]
  rfl
theorem el_cE {β : Type} {k1 k2 : Nat} {vs : List Nat} (enc : β → V) (F : Int × Nat → Option β) (h : Ev tl σ H (.ref a)) (hx : SqL K H a (ns.map V.int)) (hz : ns.length ≤ 50000)
    (hw : ∀ x y, wipe (((wipe σ vs).set k1 (some x)).set k2 (some y)) vs = wipe σ vs)
    (ht : ∀ n i, ns[i]? = some n → EvT t (((wipe σ vs).set k1 (some (.int (i : Nat)))).set k2 (some (.int n))) H (F (n, i)).isSome)
    (he : ∀ n i, ns[i]? = some n → ∀ y, F (n, i) = some y → Ev te (((wipe σ vs).set k1 (some (.int (i : Nat)))).set k2 (some (.int n))) H (enc y)) :
    EvL (tLc (iEnum K (tCons tl tNil)) (g2 K k1 k2) t te vs) σ H ((ns.zipIdx.filterMap F).map enc) := by
  have e : (ns.zipIdx.filterMap F).map enc = (ns.map V.int).zipIdx.filterMap fun v => match v with | (.int n, i) => (F (n, i)).map enc | _ => none := by
    rw [zipIdx_map, List.filterMap_map, List.map_filterMap]
    rfl
  rw [e]
  have inv : ∀ (x : V) (i : Nat), (ns.map V.int)[i]? = some x → ∃ n, ns[i]? = some n ∧ x = .int n := fun x i hi => by
    rw [List.getElem?_map] at hi
    obtain ⟨n, h1, h2⟩ := Option.map_eq_some_iff.mp hi
    exact ⟨n, h1, h2.symm⟩
  refine el_cEX _ h hx (by rw [List.length_map]; exact hz) hw (fun x i hi => ?_) fun x i hi y hy => ?_
  · obtain ⟨n, hn, rfl⟩ := inv x i hi
    have := ht n i hn
    show EvT t _ H ((F (n, i)).map enc).isSome
    rw [Option.isSome_map]
    exact this
  · obtain ⟨n, hn, rfl⟩ := inv x i hi
    have hy : (F (n, i)).map enc = some y := hy
    obtain ⟨b, hb, rfl⟩ := Option.map_eq_some_iff.mp hy
    exact he n i hn b hb
theorem el_cEm {β : Type} {k1 k2 : Nat} {vs : List Nat} (enc : β → V) (f : Int × Nat → β) (h : Ev tl σ H (.ref a)) (hx : SqL K H a (ns.map V.int)) (hz : ns.length ≤ 50000)
    (hw : ∀ x y, wipe (((wipe σ vs).set k1 (some x)).set k2 (some y)) vs = wipe σ vs)
    (he : ∀ n i, ns[i]? = some n → Ev te (((wipe σ vs).set k1 (some (.int (i : Nat)))).set k2 (some (.int n))) H (enc (f (n, i)))) :
    EvL (tLc (iEnum K (tCons tl tNil)) (g2 K k1 k2) tYes te vs) σ H ((ns.zipIdx.map f).map enc) := by
  have e : ns.zipIdx.map f = ns.zipIdx.filterMap fun n => some (f n) := (congrFun (List.filterMap_eq_map (f := f)) _).symm
  rw [e]
  exact el_cE enc _ h hx hz hw (fun _ _ _ => et_yes) fun n i hn y hy => by
    cases hy
    exact he n i hn
end
end Rh

namespace Rh
open PySem PySem.Spec PyProof.Rows L2 Evl

def tFrz (t : TE) : TE := fun σ H Q => t σ H fun x H1 => ∃ d u, x = .ref d ∧ H1 d = some u ∧ Mut (some u) ∧ ∀ od, Q x (upd H1 d (.frz od u))
theorem pe_frz {X : Cx} {e : Expr} {t : TE} (h : PE X e t) : PE X e (tFrz t) := by
  refine ⟨fun pins s σ H Q I hw => ?_⟩
  refine thn (h.run pins s σ H _ I hw) fun v s1 ⟨x, H1, I1, r, d, u, ex, hd, mu, q⟩ => ?_
  subst ex
  obtain ⟨od, I2⟩ := I1.lock hd mu
  exact ⟨.ref d, _, I2, r, q od⟩

def rGetL (K : PySem.W.Frag) : V → V → Hp → VK → Prop := fun o i H Q => ∃ p xs k v, o = .ref p ∧ i = .int (k : Nat) ∧ SqL K H p xs ∧ xs[k]? = some v ∧ Q v H
theorem get_list {X : Cx} : PGet X (rGetL X.K) := by
  intro pins s σ H o i ov iv Q I rx ry h
  obtain ⟨p, xs, k, z, rfl, rfl, hq, he, q⟩ := h
  cases rx
  obtain ⟨t, rfl⟩ := ry
  obtain ⟨its, r, pl, hz⟩ := I.list hq
  obtain ⟨w, ew, rw'⟩ := r.get he
  have hk : k < xs.length := (List.getElem?_eq_some_iff.mp he).1
  have hn := line63
  exact wpAny_getItem_list pl.isList (Int.natCast_nonneg k) (by omega) (by rw [Int.toNat_natCast]; simpa using ew) ⟨z, H, I, rw', q⟩

section
variable {K : PySem.W.Frag} {σ : L2.St} {H H' : Hp} {ta tb te tx tl : TE} {t u : TT} {x y z v : V} {i j : Int} {a : Addr} {ns ms : List Int} {D : Ends} {tu tw tz : TS} {g : TG}
/-- xs[i] = e -/
theorem q_setI {l : Addr} {k : Nat} (hl : H l = some (.lst (ns.map V.int))) (h : Ev te σ H (.int i)) (ho : Ev ta σ H (.ref l)) (hi : Ev tb σ H (.int (k : Int))) (hk : k < ns.length) (q : ∀ H1, Ex H H1 → tz D σ (upd H1 l (.lst ((ns.set k i).map V.int)))) :
    tSeq (tAsg te (gSub ta tb rSetL)) tz D σ H := q_setL hl h ho hi (by rw [List.length_map]; exact hk) fun H1 e => by
  rw [← List.map_set]
  exact q H1 e
/-- xs[i] -= e -/
theorem q_subI {l : Addr} {k : Nat} {n : Int} (hl : H l = some (.lst (ns.map V.int))) (ho : Ev ta σ H (.ref l)) (hi : Ev tb σ H (.int (k : Int))) (h : Ev te σ H (.int i)) (hk : ns[k]? = some n)
    (q : ∀ H1, Ex H H1 → tz D σ (upd H1 l (.lst ((ns.set k (n - i)).map V.int)))) : tSeq (tAugS ta tb te (rGetL K) (ipI fun i j => i - j) rSetL) tz D σ H :=
  ho H (Ex.refl H) _ fun H1 e1 => hi H1 e1 _ fun H2 e2 => ⟨l, ns.map V.int, k, .int n, rfl, rfl, sq_map ((e1.trans e2) _ _ hl), by rw [List.getElem?_map, hk]; rfl, h H2 (e1.trans e2) _ fun H3 e3 =>
    ⟨n, i, rfl, rfl, l, ns.map V.int, (k : Int), k, rfl, rfl, ((e1.trans e2).trans e3) _ _ hl, ixN_nat (by rw [List.length_map]; exact (List.getElem?_eq_some_iff.mp hk).1), by
      rw [← List.map_set]
      exact q H3 ((e1.trans e2).trans e3)⟩⟩
/-- d[k] = e, the key and what is put ints or truths -/
theorem q_dput {d : Addr} {kvs : List (Key × V)} (hd : H d = some (.dK kvs)) (hv : Ev te σ H v) (ho : Ev ta σ H (.ref d)) (hk : Ev tb σ H (.int i)) (hz : kvs.length < 100000) (q : ∀ H1, Ex H H1 → tz D σ (upd H1 d (.dK (putK kvs (.inl i) v)))) :
    tSeq (sDPut ta tb te) tz D σ H := hv H (Ex.refl H) _ fun H1 e1 => ho H1 e1 _ fun H2 e2 => hk H2 (e1.trans e2) _ fun H3 e3 =>
  ⟨d, _, rfl, DPut.k (k := Sum.inl i) (((e1.trans e2).trans e3) _ _ hd) (sz_lt hz), q H3 ((e1.trans e2).trans e3)⟩
theorem s_dput {d : Addr} {kvs : List (Key × V)} (hd : H d = some (.dK kvs)) (hv : Ev te σ H v) (ho : Ev ta σ H (.ref d)) (hk : Ev tb σ H (.int i)) (hz : kvs.length < 100000) (q : ∀ H1, Ex H H1 → D.nx σ (upd H1 d (.dK (putK kvs (.inl i) v)))) :
    sDPut ta tb te D σ H := hv H (Ex.refl H) _ fun H1 e1 => ho H1 e1 _ fun H2 e2 => hk H2 (e1.trans e2) _ fun H3 e3 =>
  ⟨d, _, rfl, DPut.k (k := Sum.inl i) (((e1.trans e2).trans e3) _ _ hd) (sz_lt hz), q H3 ((e1.trans e2).trans e3)⟩
theorem ev_dget {d : Addr} {kvs : List (Key × V)} (hd : H d = some (.dK kvs)) (ho : Ev ta σ H (.ref d)) (hk : Ev tb σ H (.int i)) (hx : Ev tx σ H x) : Ev (tDGet2 ta tb tx) σ H ((valV kvs (.inl i)).getD x) := fun H1 e Q q =>
  ho H1 e _ fun H2 e2 => ⟨d, rfl, .inl ⟨kvs, .inl (e2 _ _ (e _ _ hd))⟩, hk H2 (e.trans e2) _ fun H3 e3 => hx H3 ((e.trans e2).trans e3) _ fun H4 e4 =>
    ⟨_, DGet.k (k := Sum.inl i) ((((e.trans e2).trans e3).trans e4) _ _ hd), q H4 ((e2.trans e3).trans e4)⟩⟩
theorem ev_dnin {d : Addr} {kvs : List (Key × V)} (hd : H d = some (.dK kvs)) (hk : Ev tb σ H (.int i)) (ho : Ev ta σ H (.ref d)) : Ev (tDNotIn tb ta) σ H (.bl (!(valV kvs (.inl i)).isSome)) := fun H1 e Q q =>
  hk H1 e _ fun H2 e2 => ho H2 (e.trans e2) _ fun H3 e3 => ⟨d, _, rfl, DGet.k (k := Sum.inl i) (((e.trans e2).trans e3) _ _ hd), q H3 (e2.trans e3)⟩
theorem q_dnew {k : Nat} (q : ∀ p H1, H p = none → Ex H H1 → H1 p = some (.dK []) → tz D (σ.set k (some (.ref p))) H1) : tSeq (tAsg tDNewK (gName k)) tz D σ H := fun p hp => q p _ hp (Ex.new hp) upd_same
theorem q_lnew {k : Nat} (q : ∀ p H1, H p = none → Ex H H1 → H1 p = some (.lst []) → tz D (σ.set k (some (.ref p))) H1) : tSeq (tAsg (tLst tNil) (gName k)) tz D σ H := ⟨Nat.zero_le _, fun p hp => q p _ hp (Ex.new hp) upd_same⟩

theorem split_at {α : Type} {l : List α} {k : Nat} {x : α} (h : l[k]? = some x) : l = l.take k ++ x :: l.drop (k + 1) := by
  have hk := (List.getElem?_eq_some_iff.mp h).1
  have h3 := (List.getElem?_eq_some_iff.mp h).2
  rw [← h3, ← List.drop_eq_getElem_cons hk, List.take_append_drop]
theorem s_forP {k : Nat} (h : Ev tl σ H (.ref a)) (hx : SqL K H a (ns.map V.int)) (Pv : List Int → L2.St → Hp → Prop) (h0 : ∀ H1, Ex H H1 → Pv [] σ H1) (hl : ∀ pre σ' H', Pv pre σ' H' → SqL K H' a (ns.map V.int))
    (hs : ∀ pre n post σ' H', ns = pre ++ n :: post → Pv pre σ' H' → tu { D with nx := Pv (pre ++ [n]), ct := Pv (pre ++ [n]), bk := D.nx } (σ'.set k (some (.int n))) H') (hd : ∀ σ' H', Pv ns σ' H' → D.nx σ' H') : tFor (iList K tl) (gName k) tu D σ H := by
  refine s_forL h hx (fun i => Pv (ns.take i)) (by simpa using h0) (fun i σ' H' _ p => hl _ _ _ p) (fun i x σ' H' hi p => ?_) (fun σ' H' p => ?_)
  · rw [List.getElem?_map] at hi
    obtain ⟨n, h1, h2⟩ := Option.map_eq_some_iff.mp hi
    subst h2
    have e : ns.take (i + 1) = ns.take i ++ [n] := by rw [List.take_add_one, h1]; rfl
    rw [e]
    exact hs _ n _ _ _ (split_at h1) p
  · rw [List.length_map, List.take_length] at p
    exact hd _ _ p
theorem q_forP {k : Nat} (h : Ev tl σ H (.ref a)) (hx : SqL K H a (ns.map V.int)) (Pv : List Int → L2.St → Hp → Prop) (h0 : ∀ H1, Ex H H1 → Pv [] σ H1) (hl : ∀ pre σ' H', Pv pre σ' H' → SqL K H' a (ns.map V.int))
    (hs : ∀ pre n post σ' H', ns = pre ++ n :: post → Pv pre σ' H' → tu { D with nx := Pv (pre ++ [n]), ct := Pv (pre ++ [n]), bk := tz D } (σ'.set k (some (.int n))) H') (hd : ∀ σ' H', Pv ns σ' H' → tz D σ' H') : tSeq (tFor (iList K tl) (gName k) tu) tz D σ H :=
  s_forP (D := { D with nx := tz D }) h hx Pv h0 hl hs hd
/-- over a new list -/
theorem s_forN {k : Nat} (h : EvL tl σ H (ns.map V.int)) (Pv : Addr → List Int → L2.St → Hp → Prop) (h0 : ∀ p H1, H p = none → Ex H H1 → H1 p = some (.lst (ns.map V.int)) → Pv p [] σ H1) (hl : ∀ p pre σ' H', Pv p pre σ' H' → SqL K H' p (ns.map V.int))
    (hs : ∀ p pre n post σ' H', ns = pre ++ n :: post → Pv p pre σ' H' → tu { D with nx := Pv p (pre ++ [n]), ct := Pv p (pre ++ [n]), bk := D.nx } (σ'.set k (some (.int n))) H') (hd : ∀ p σ' H', Pv p ns σ' H' → D.nx σ' H') : tFor (iList K tl) (gName k) tu D σ H :=
  h H (Ex.refl H) _ fun p H1 hp e h1 => ⟨p, rfl, ⟨_, sq_map h1⟩, for_list (xs := ns.map V.int) (fun i => Pv p (ns.take i)) (by simpa using h0 p H1 hp e h1) (fun i σ' H' _ q => hl _ _ _ _ q) (fun i x σ' H' hi q => by
    rw [List.getElem?_map] at hi
    obtain ⟨n, h1, h2⟩ := Option.map_eq_some_iff.mp hi
    subst h2
    have e : ns.take (i + 1) = ns.take i ++ [n] := by rw [List.take_add_one, h1]; rfl
    rw [e]
    exact hs p _ n _ _ _ (split_at h1) q) (fun σ' H' q => by
    rw [List.length_map, List.take_length] at q
    exact hd _ _ _ q)⟩
theorem q_forN {k : Nat} (h : EvL tl σ H (ns.map V.int)) (Pv : Addr → List Int → L2.St → Hp → Prop) (h0 : ∀ p H1, H p = none → Ex H H1 → H1 p = some (.lst (ns.map V.int)) → Pv p [] σ H1) (hl : ∀ p pre σ' H', Pv p pre σ' H' → SqL K H' p (ns.map V.int))
    (hs : ∀ p pre n post σ' H', ns = pre ++ n :: post → Pv p pre σ' H' → tu { D with nx := Pv p (pre ++ [n]), ct := Pv p (pre ++ [n]), bk := tz D } (σ'.set k (some (.int n))) H') (hd : ∀ p σ' H', Pv p ns σ' H' → tz D σ' H') : tSeq (tFor (iList K tl) (gName k) tu) tz D σ H :=
  s_forN (D := { D with nx := tz D }) h Pv h0 hl hs hd
/-- for a, b in enumerate(xs) -/
theorem for_enum {xs : List V} (Pv : Nat → L2.St → Hp → Prop) (h0 : Pv 0 σ H) (hl : ∀ i σ H, i ≤ xs.length → Pv i σ H → SqL K H a xs)
    (hs : ∀ i x T σ H, xs[i]? = some x → Pv i σ H → H T = none → g (.ref T) σ (upd H T (.tup [.int (i : Nat), x])) fun σ2 H2 => tu { D with nx := Pv (i + 1), ct := Pv (i + 1), bk := D.nx } σ2 H2) (hd : ∀ σ H, Pv xs.length σ H → D.nx σ H) :
    ∃ W : Nat → Nat → L2.St → Hp → Prop, (∃ m, W 0 m σ H) ∧ ∀ i m σ H, W i m σ H →
      ((Ite K a).stop i H ∧ D.nx σ H) ∨ ((Ite K a).go i H ∧ ∃ N : L2.St → Hp → Prop, (∀ σ' H', N σ' H' → ∃ m', m' < m ∧ W (i + 1) m' σ' H') ∧ ∀ x H', (Ite K a).yld i H x H' → g x σ H' fun σ2 H2 => tu { D with nx := N, ct := N, bk := D.nx } σ2 H2) := by
  refine ⟨fun i m σ H => m = xs.length - i ∧ i ≤ xs.length ∧ Pv i σ H, ⟨xs.length, by simp, Nat.zero_le _, h0⟩, ?_⟩
  rintro i m σ H ⟨rfl, hi, p⟩
  have q := hl i σ H hi p
  by_cases hlt : i < xs.length
  · refine .inr ⟨⟨xs, xs[i], q, by simp [hlt]⟩, Pv (i + 1), fun σ' H' p' => ⟨xs.length - (i + 1), by omega, rfl, hlt, p'⟩, fun x H' y => ?_⟩
    obtain ⟨T, x, rfl, nT, rfl, y⟩ := y
    exact hs i x T σ _ (y xs q) p nT
  · have e : i = xs.length := by omega
    subst e
    exact .inl ⟨⟨xs, q, Nat.le_refl _⟩, hd σ H p⟩
theorem s_forE {k1 k2 : Nat} (h : Ev tl σ H (.ref a)) (hx : SqL K H a (ns.map V.int)) (Pv : List Int → L2.St → Hp → Prop) (h0 : ∀ H1, Ex H H1 → Pv [] σ H1) (hl : ∀ pre σ' H', Pv pre σ' H' → SqL K H' a (ns.map V.int))
    (hs : ∀ pre n post T σ' H', ns = pre ++ n :: post → Pv pre σ' H' → H' T = none → tu { D with nx := Pv (pre ++ [n]), ct := Pv (pre ++ [n]), bk := D.nx } ((σ'.set k1 (some (.int (pre.length : Nat)))).set k2 (some (.int n))) (upd H' T (.tup [.int (pre.length : Nat), .int n]))) (hd : ∀ σ' H', Pv ns σ' H' → D.nx σ' H') :
    tFor (iEnum K (tCons tl tNil)) (g2 K k1 k2) tu D σ H :=
  h H (Ex.refl H) _ fun H1 e => ⟨a, _, rfl, ex_l e hx, for_enum (xs := ns.map V.int) (fun i => Pv (ns.take i)) (by simpa using h0 H1 e) (fun i σ' H' _ q => hl _ _ _ q) (fun i x T σ' H' hi q hT => by
    rw [List.getElem?_map] at hi
    obtain ⟨n, h1, h2⟩ := Option.map_eq_some_iff.mp hi
    subst h2
    have e : ns.take (i + 1) = ns.take i ++ [n] := by rw [List.take_add_one, h1]; rfl
    have hlt := (List.getElem?_eq_some_iff.mp h1).1
    have el : (ns.take i).length = i := by rw [List.length_take]; omega
    rw [e]
    have := hs _ n _ T _ _ (split_at h1) q hT
    rw [el] at this
    exact g2_go upd_same this) (fun σ' H' q => by
    rw [List.length_map, List.take_length] at q
    exact hd _ _ q)⟩
theorem q_forE {k1 k2 : Nat} (h : Ev tl σ H (.ref a)) (hx : SqL K H a (ns.map V.int)) (Pv : List Int → L2.St → Hp → Prop) (h0 : ∀ H1, Ex H H1 → Pv [] σ H1) (hl : ∀ pre σ' H', Pv pre σ' H' → SqL K H' a (ns.map V.int))
    (hs : ∀ pre n post T σ' H', ns = pre ++ n :: post → Pv pre σ' H' → H' T = none → tu { D with nx := Pv (pre ++ [n]), ct := Pv (pre ++ [n]), bk := tz D } ((σ'.set k1 (some (.int (pre.length : Nat)))).set k2 (some (.int n))) (upd H' T (.tup [.int (pre.length : Nat), .int n]))) (hd : ∀ σ' H', Pv ns σ' H' → tz D σ' H') :
    tSeq (tFor (iEnum K (tCons tl tNil)) (g2 K k1 k2) tu) tz D σ H := s_forE (D := { D with nx := tz D }) h hx Pv h0 hl hs hd
end
end Rh

namespace Rh
open PySem PySem.Spec PyProof.Rows L2 Evl

section
variable {K : PySem.W.Frag} {σ : L2.St} {H H' : Hp} {ta tb te tx tl : TE} {x y z v : V} {i j : Int} {a : Addr} {ns ms : List Int}
theorem tyX_L {xs : List V} (h : SqL K H a xs) : TyX K H (.ref a) (.type "list") := by
  rcases h with (h | ⟨o, h⟩) | ⟨o, its, n, h, c, _⟩
  · exact .base (.lst h)
  · exact .base (.frz h)
  · exact .kList h c
theorem ev_isiI {T : String} {b : Bool} (h : Ev ta σ H (.int i)) (hk : kitB "int" T = some b) : Ev (tCB (rIsi K) (tCons ta (tCons (tC (.ty T)) tNil))) σ H (.bl b) := fun H1 e Q q =>
  h H1 e _ fun H2 e2 => ⟨_, _, _, _, b, rfl, .ty T, .base (.int i), kit_ty hk, q H2 e2⟩
theorem ev_isiB {T : String} {b c : Bool} (h : Ev ta σ H (.bl c)) (hk : kitB "bool" T = some b) : Ev (tCB (rIsi K) (tCons ta (tCons (tC (.ty T)) tNil))) σ H (.bl b) := fun H1 e Q q =>
  h H1 e _ fun H2 e2 => ⟨_, _, _, _, b, rfl, .ty T, .base (.bl c), kit_ty hk, q H2 e2⟩
theorem ev_isiL {T : String} {b : Bool} {xs : List V} (h : Ev ta σ H (.ref a)) (hs : SqL K H a xs) (hk : kitB "list" T = some b) : Ev (tCB (rIsi K) (tCons ta (tCons (tC (.ty T)) tNil))) σ H (.bl b) := fun H1 e Q q =>
  h H1 e _ fun H2 e2 => ⟨_, _, _, _, b, rfl, .ty T, tyX_L (ex_l (e.trans e2) hs), kit_ty hk, q H2 e2⟩
end

theorem marks_comp_from (n : Int) : ∀ (ns : List Int) (k : Nat), (k : Int) + ns.length = n → ((ns.zipIdx k).map fun p => p.1 + n - 1 - (p.2 : Int)) = marksOf ns
  | [], _, _ => rfl
  | x :: r, k, h => by
    rw [List.length_cons] at h
    rw [List.zipIdx_cons, List.map_cons, marks_comp_from n r (k + 1) (by omega)]
    show (x + n - 1 - (k : Int)) :: marksOf r = (x + (r.length : Int)) :: marksOf r
    congr 1
    omega
theorem marks_comp (ns : List Int) : (ns.zipIdx.map fun p => p.1 + (ns.length : Int) - 1 - (p.2 : Int)) = marksOf ns := marks_comp_from _ ns 0 (by omega)
theorem rows_comp_from (n : Int) : ∀ (ns : List Int) (k : Nat), (k : Int) + ns.length = n → ((ns.zipIdx k).map fun p => p.1 - n + 1 + (p.2 : Int)) = rowsOf ns
  | [], _, _ => rfl
  | x :: r, k, h => by
    rw [List.length_cons] at h
    rw [List.zipIdx_cons, List.map_cons, rows_comp_from n r (k + 1) (by omega)]
    show (x - n + 1 + (k : Int)) :: rowsOf r = (x - (r.length : Int)) :: rowsOf r
    congr 1
    omega
theorem rows_comp (ns : List Int) : (ns.zipIdx.map fun p => p.1 - (ns.length : Int) + 1 + (p.2 : Int)) = rowsOf ns := rows_comp_from _ ns 0 (by omega)
theorem pos_comp (ns : List Int) : (ns.filterMap fun n => if 0 < n then some n else none) = ns.filter fun x => decide (0 < x) := by
  induction ns with
  | nil => rfl
  | cons x r ih =>
    by_cases h : 0 < x
    · simp [h, ih]
    · simp [h, ih]
theorem rims_comp (M : List Int) (L : Int) : (M.zipIdx.filterMap fun p => if (decide (L ≤ p.1) && !decide (p.1 - L ∈ M)) = true then some ((p.2 : Nat) : Int) else none) = rimsM M L := by
  unfold rimsM
  congr 1
  funext p
  by_cases h : L ≤ p.1 ∧ p.1 - L ∉ M
  · rw [if_pos h, if_pos (by simp [h.1, h.2])]
  · rw [if_neg h, if_neg (by
      simp only [Bool.and_eq_true, decide_eq_true_eq, Bool.not_eq_true', decide_eq_false_iff_not]
      exact h)]

theorem nodup_putK {kvs : List (Key × V)} {k : Key} {v : V} (h : (kvs.map (·.1)).Nodup) : ((putK kvs k v).map (·.1)).Nodup := by
  unfold putK
  split
  · rw [List.map_map]
    have e : ((fun kv : Key × V => kv.1) ∘ fun kv => if kv.1 = k then (kv.1, v) else kv) = fun kv => kv.1 := by
      funext kv
      show (if kv.1 = k then (kv.1, v) else kv).1 = kv.1
      split <;> rfl
    rw [e]
    exact h
  · rename_i hn
    rw [List.map_append, List.nodup_append]
    refine ⟨h, by simp, fun a ha b hb e => hn ?_⟩
    subst e
    obtain ⟨kv, hkv, rfl⟩ := List.mem_map.mp ha
    have : kv.1 = k := by simpa using hb
    exact List.any_eq_true.mpr ⟨kv, hkv, decide_eq_true this⟩
theorem valV_mem {kvs : List (Key × V)} {k : Key} {v : V} (hn : (kvs.map (·.1)).Nodup) : (k, v) ∈ kvs ↔ valV kvs k = some v := by
  induction kvs with
  | nil => simp [valV]
  | cons p r ih =>
    obtain ⟨h1, h2⟩ := List.nodup_cons.mp hn
    by_cases e : p.1 = k
    · rw [valV_pos e]
      constructor
      · intro h
        rcases List.mem_cons.mp h with q | q
        · rw [← q]
        · exact absurd (List.mem_map.mpr ⟨_, q, e.symm⟩) h1
      · intro h
        have : p = (k, v) := Prod.ext e (Option.some.inj h)
        rw [this]
        exact List.mem_cons_self
    · rw [valV_neg e, ← ih h2]
      constructor
      · intro h
        rcases List.mem_cons.mp h with q | q
        · exact absurd (congrArg Prod.fst q).symm e
        · exact q
      · exact fun h => List.mem_cons_of_mem _ h
/-- a dict of which marks are there -/
def DSeen (kvs : List (Key × V)) (M : List Int) : Prop := (∀ m : Int, (valV kvs (.inl m)).isSome = decide (m ∈ M)) ∧ kvs.length ≤ M.length
theorem DSeen.nil : DSeen [] [] := ⟨fun m => by simp [valV], Nat.le_refl _⟩
theorem DSeen.put {kvs : List (Key × V)} {M : List Int} {m : Int} {v : V} (d : DSeen kvs M) : DSeen (putK kvs (.inl m) v) (M ++ [m]) := by
  refine ⟨fun n => ?_, ?_⟩
  · rw [valV_put]
    by_cases e : n = m
    · subst e
      rw [if_pos rfl]
      simp
    · rw [if_neg (fun q => e (Sum.inl.inj q)), d.1]
      simp [e]
  · have := length_putK kvs (.inl m : Key) v
    rw [List.length_append, List.length_singleton]
    have := d.2
    omega
/-- a dict of the rests, each with how many have it -/
structure DTal (kvs : List (Key × V)) (M : List Int) (L : Int) : Prop where
  int : ∀ r : Int, valV kvs (.inl r) = if cnt M L r = 0 then none else some (.int ((cnt M L r : Nat) : Int))
  str : ∀ z : Str, valV kvs (.inr z) = none
  nd : (kvs.map (·.1)).Nodup
  len : kvs.length ≤ M.length
theorem DTal.nil (L : Int) : DTal [] [] L := ⟨fun r => by simp [valV, cnt_nil], fun _ => rfl, List.nodup_nil, Nat.le_refl _⟩
theorem DTal.get {kvs : List (Key × V)} {M : List Int} {L : Int} (d : DTal kvs M L) (r : Int) : (valV kvs (.inl r)).getD (.int 0) = .int ((cnt M L r : Nat) : Int) := by
  rw [d.int]
  split
  · rename_i h
    rw [h]
    rfl
  · rfl
theorem DTal.put {kvs : List (Key × V)} {M : List Int} {L m : Int} (d : DTal kvs M L) : DTal (putK kvs (.inl (m % L)) (.int (((cnt M L (m % L) : Nat) : Int) + 1))) (M ++ [m]) L := by
  refine ⟨fun r => ?_, fun z => ?_, nodup_putK d.nd, ?_⟩
  · rw [valV_put, cnt_append, cnt_cons, cnt_nil, Nat.zero_add]
    by_cases e : r = m % L
    · subst e
      rw [if_pos rfl, if_pos rfl, if_neg (by omega)]
      rfl
    · have e2 : ¬ m % L = r := fun q => e q.symm
      rw [if_neg (fun q => e (Sum.inl.inj q)), d.int]
      simp only [if_neg e2, Nat.add_zero]
  · rw [valV_put, if_neg (fun q => nomatch q)]
    exact d.str z
  · have := length_putK kvs (.inl (m % L) : Key) (V.int (((cnt M L (m % L) : Nat) : Int) + 1))
    rw [List.length_append, List.length_singleton]
    have := d.len
    omega
def dT (T : List (Int × Nat)) : List (Key × V) := T.map fun p => (Sum.inl p.1, V.int (p.2 : Nat))
theorem DTal.tally {kvs : List (Key × V)} {M : List Int} {L : Int} (d : DTal kvs M L) : ∃ T, kvs = dT T ∧ Tally T M L := by
  have h : ∀ p ∈ kvs, ∃ q : Int × Nat, p = (Sum.inl q.1, V.int (q.2 : Nat)) ∧ q.2 = cnt M L q.1 ∧ 0 < q.2 := by
    rintro ⟨k, v⟩ hp
    have e := (valV_mem d.nd).mp hp
    cases k with
    | inl r =>
      rw [d.int] at e
      split at e
      · cases e
      · rename_i hc
        cases e
        exact ⟨(r, cnt M L r), rfl, rfl, by omega⟩
    | inr z =>
      rw [d.str] at e
      cases e
  have ex : ∃ T, kvs = dT T := by
    have : ∀ l : List (Key × V), (∀ p ∈ l, ∃ q : Int × Nat, p = (Sum.inl q.1, V.int (q.2 : Nat)) ∧ q.2 = cnt M L q.1 ∧ 0 < q.2) → ∃ T, l = dT T := by
      intro l
      induction l with
      | nil => intro _; exact ⟨[], rfl⟩
      | cons p l ih =>
        intro hl
        obtain ⟨T, hT⟩ := ih fun x hx => hl x (List.mem_cons_of_mem _ hx)
        obtain ⟨q, hq, _⟩ := hl p List.mem_cons_self
        exact ⟨q :: T, by rw [hq, hT]; rfl⟩
    exact this kvs h
  obtain ⟨T, rfl⟩ := ex
  refine ⟨T, rfl, ?_, fun r c => ?_⟩
  · have e := d.nd
    unfold dT at e
    rw [List.map_map] at e
    have e2 : ((fun kv : Key × V => kv.1) ∘ fun p : Int × Nat => ((Sum.inl p.1 : Key), V.int (p.2 : Nat))) = (fun r : Int => (Sum.inl r : Key)) ∘ fun p : Int × Nat => p.1 := rfl
    rw [e2, ← List.map_map] at e
    rw [List.nodup_iff_pairwise_ne, List.pairwise_map] at e
    exact List.nodup_iff_pairwise_ne.mpr (List.Pairwise.imp (fun h q => h (by rw [q])) e)
  · constructor
    · intro hm
      obtain ⟨q, h1, h2, h3⟩ := h (Sum.inl r, V.int (c : Nat)) (List.mem_map.mpr ⟨(r, c), hm, rfl⟩)
      have e1 : r = q.1 := Sum.inl.inj (congrArg Prod.fst h1)
      have e2 : ((c : Nat) : Int) = (q.2 : Nat) := V.int.inj (congrArg Prod.snd h1)
      subst e1
      have : c = q.2 := by omega
      exact ⟨by omega, by omega⟩
    · rintro ⟨rfl, hc⟩
      have e : valV (dT T) (.inl r) = some (.int ((cnt M L r : Nat) : Int)) := by rw [d.int, if_neg (by omega)]
      have hm := (valV_mem d.nd).mpr e
      obtain ⟨p, hp, e⟩ := List.mem_map.mp hm
      have e1 : p.1 = r := Sum.inl.inj (congrArg Prod.fst e)
      have e2 : ((p.2 : Nat) : Int) = (cnt M L r : Nat) := V.int.inj (congrArg Prod.snd e)
      have : p = (r, cnt M L r) := Prod.ext e1 (by show p.2 = _; omega)
      rw [← this]
      exact hp
end Rh

namespace Rh
open PySem PySem.Spec PyProof.Rows L2 Evl
section
variable (K : PySem.W.Frag)
abbrev Len (ns : List Int) : Prop := ns.length ≤ 30000
def sp_is_whole : Sp := spi (fun _ => True) fun _ => RetV (.bl true)
def sp_is_heap : Sp := spL K (fun ns => IsHeap ns ∧ Len ns) fun _ => RetV (.bl true)
def sp_check_heap : Sp := spL K (fun ns => IsHeap ns ∧ Len ns) fun _ => RetV .non
def sp_check_length : Sp := spi (fun i => 1 ≤ i) fun _ => RetV .non
def sp_marks_of : Sp := spL K Len fun ns => RI (marksOf ns)
def sp_heap_of : Sp := spL K Len fun ns => RI (heapOf ns)
def sp_marks_by : Sp := spL K (fun ns => IsHeap ns ∧ Len ns) fun ns => RI (marksOf ns)
def sp_squares : Sp := spL K (fun ns => IsHeap ns ∧ Len ns) fun ns => RetV (.int ns.sum)
def sp_rims_of : Sp := spLi K (fun ns _ => Len ns) fun ns L => RI (rimsH ns L)
def sp_rims : Sp := spLi K (fun ns L => (IsHeap ns ∧ Len ns) ∧ 1 ≤ L) fun ns L => RI (rimsH ns L)
def sp_behind : Sp := spLii K (fun ns _ r => Len ns ∧ ∃ i : Nat, r = (i : Int) ∧ i < ns.length) fun ns L r => RI (behindOf ns L r.toNat)
def sp_taken : Sp := spLii K (fun ns L r => (IsHeap ns ∧ Len ns) ∧ 1 ≤ L ∧ r ∈ rimsH ns L) fun ns L r => RI (behindOf ns L r.toNat)
def sp_counts_of : Sp := fun vs H Q _ => ∃ (a : Addr) (ns : List Int) (L : Int), vs = [.ref a, .int L] ∧ SqL K H a (ns.map V.int) ∧ (Len ns ∧ 0 < L) ∧ ∀ p kvs H2, H p = none → Ex H H2 → H2 p = some (.dK kvs) → DTal kvs ns L → Q (.ref p) H2
def sp_core : Sp := spLi K (fun ns L => (IsHeap ns ∧ Len ns) ∧ 1 ≤ L) fun ns L => RI (coreOf ns L)
def sp_rims_in : Sp := spLi K (fun ns L => (IsHeap ns ∧ Len ns) ∧ 1 ≤ L ∧ L.natAbs.log2 < 9000) fun ns L => RetV (.int (rimsIn ns L))
end
end Rh

namespace Rh
open PySem PySem.Spec PyProof.Rows L2 Evl
section
variable {K : PySem.W.Frag} {σ : L2.St} {H H' : Hp} {ta tb te tx tl : TE} {t u : TT} {x y z v : V} {i j : Int} {a : Addr} {ns ms : List Int} {D : Ends} {tu tw tz : TS} {g : TG} {tg : TA}
theorem el_sortedR (h : Ev ta σ H (.ref a)) (hs : SqL K H a (ns.map V.int)) : EvL (tCKw (rSortedKw K true [.bl true]) (tCons ta tNil) (tCons (tC (.bl true)) tNil)) σ H ((sortD ns).map V.int) := fun H1 e Q q =>
  h H1 e _ fun H2 e2 => ⟨a, ns, rfl, rfl, ex_l (e.trans e2) hs, fun ns' p hp ho hn => by
    have e3 : ns' = sortD ns := sortD_eq hp ho
    subst e3
    exact q p _ (fresh_back e2 hn) (e2.trans (Ex.new hn)) upd_same⟩
theorem el_sortedN (h : EvL ta σ H (ns.map V.int)) : EvL (tCKw (rSortedKw K true [.bl true]) (tCons ta tNil) (tCons (tC (.bl true)) tNil)) σ H ((sortD ns).map V.int) := fun H1 e Q q =>
  h H1 e _ fun a H2 _ e2 h2 => ⟨a, ns, rfl, rfl, sq_map h2, fun ns' p hp ho hn => by
    have e3 : ns' = sortD ns := sortD_eq hp ho
    subst e3
    exact q p _ (fresh_back e2 hn) (e2.trans (Ex.new hn)) upd_same⟩
theorem ra_fm {β : Type} (enc : β → V) (f : Nat → β) (n : Nat) : ((List.range n).map f).map enc = (List.range n).filterMap fun k => some (enc (f k)) := by
  rw [List.map_map]
  exact (congrFun (List.filterMap_eq_map (f := fun k => enc (f k))) _).symm
theorem range_at {n k : Nat} (h : k < n) : (List.range n)[k]? = some k := by
  rw [List.getElem?_range h]
/-- over range(lo, hi) -/
theorem el_cR2 {β : Type} {k : Nat} {vs : List Nat} {lo hi : Int} (enc : β → V) (f : Nat → β) (h : EvA tg σ H [.int lo, .int hi]) (h1 : -20000 ≤ lo ∧ lo ≤ 50000 ∧ -50000 ≤ hi ∧ hi ≤ 50000) (hw : ∀ x, wipe ((wipe σ vs).set k (some x)) vs = wipe σ vs)
    (he : ∀ i : Nat, lo + (i : Int) < hi → Ev te ((wipe σ vs).set k (some (.int (lo + (i : Int))))) H (enc (f i))) :
    EvL (tLc (iRng2 tg) (gName k) tYes te vs) σ H (((List.range (hi - lo).toNat).map f).map enc) := fun H0 e Q q => h H0 e _ fun H1 e1 => ⟨lo, hi, rfl, ⟨by omega, by omega, by omega, by omega⟩, fun Dl hD => by
  rw [ra_fm] at q
  exact lc_range (lo := lo) (n := (hi - lo).toNat) (fun i H' => Cg H1 Dl (((List.range (hi - lo).toNat).take i).filterMap fun k => some (enc (f k))) H') (Cg.start hD) (fun i H' hi' p => ⟨hw _, by
    rw [take_fm _ (range_at hi')]
    exact cg_turn p (by have := fm_len (List.range (hi - lo).toNat) (fun k => some (enc (f k))) i; rw [List.length_range] at this; omega) et_yes fun y hy => by
      cases hy
      exact (he i (by omega)).mono ((e.trans e1).trans p.2.1)⟩) (fun H' p => by
    have hl : (List.range (hi - lo).toNat).take (hi - lo).toNat = List.range (hi - lo).toNat := List.take_of_length_le (by rw [List.length_range]; exact Nat.le_refl _)
    rw [hl] at p
    exact q Dl H' (fresh_back e1 p.1) (e1.trans p.2.1) p.2.2)⟩
/-- over range(n) -/
theorem el_cR1 {β : Type} {k : Nat} {vs : List Nat} {hi : Int} (enc : β → V) (f : Nat → β) (h : EvA tg σ H [.int hi]) (h1 : -50000 ≤ hi ∧ hi ≤ 50000) (hw : ∀ x, wipe ((wipe σ vs).set k (some x)) vs = wipe σ vs)
    (he : ∀ i : Nat, (i : Int) < hi → Ev te ((wipe σ vs).set k (some (.int (i : Int)))) H (enc (f i))) :
    EvL (tLc (iRng1 tg) (gName k) tYes te vs) σ H (((List.range hi.toNat).map f).map enc) := fun H0 e Q q => h H0 e _ fun H1 e1 => ⟨hi, rfl, by omega, by omega, fun Dl hD => by
  rw [ra_fm] at q
  exact lc_range (lo := 0) (n := hi.toNat) (fun i H' => Cg H1 Dl (((List.range hi.toNat).take i).filterMap fun k => some (enc (f k))) H') (Cg.start hD) (fun i H' hi' p => ⟨hw _, by
    rw [take_fm _ (range_at hi')]
    have e0 : (0 : Int) + (i : Int) = (i : Int) := Int.zero_add _
    rw [e0]
    exact cg_turn p (by have := fm_len (List.range hi.toNat) (fun k => some (enc (f k))) i; rw [List.length_range] at this; omega) et_yes fun y hy => by
      cases hy
      exact (he i (by omega)).mono ((e.trans e1).trans p.2.1)⟩) (fun H' p => by
    have hl : (List.range hi.toNat).take hi.toNat = List.range hi.toNat := List.take_of_length_le (by rw [List.length_range]; exact Nat.le_refl _)
    rw [hl] at p
    exact q Dl H' (fresh_back e1 p.1) (e1.trans p.2.1) p.2.2)⟩

def EvD (te : TE) (σ : L2.St) (H : Hp) (Good : List (Key × V) → Prop) : Prop := ∀ H1, Ex H H1 → ∀ Q : VK, (∀ p kvs H2, H1 p = none → Ex H1 H2 → H2 p = some (.dK kvs) → Good kvs → Q (.ref p) H2) → te σ H1 Q
theorem EvD.mono {Good : List (Key × V) → Prop} (e : Ex H H') (h : EvD te σ H Good) : EvD te σ H' Good := fun H1 a Q q => h H1 (e.trans a) Q q
/-- it is locked, what stood before stands -/
theorem EvD.frz {Good : List (Key × V) → Prop} (h : EvD te σ H Good) {Q : VK} (q : ∀ d od kvs H2, Ex H H2 → H2 d = some (.frz od (.dK kvs)) → Good kvs → Q (.ref d) H2) : tFrz te σ H Q :=
  h H (Ex.refl H) _ fun p kvs H2 hp e h2 gd => ⟨p, .dK kvs, rfl, h2, trivial, fun od => q p od kvs _ (e.mut hp) upd_same gd⟩
theorem dT_at {T : List (Int × Nat)} {k : Nat} {ky : Key} {v : V} (h : (dT T)[k]? = some (ky, v)) : ∃ r c, T[k]? = some (r, c) ∧ ky = Sum.inl r ∧ v = .int ((c : Nat) : Int) := by
  unfold dT at h
  rw [List.getElem?_map] at h
  obtain ⟨p, h1, h2⟩ := Option.map_eq_some_iff.mp h
  exact ⟨p.1, p.2, h1, (congrArg Prod.fst h2).symm, (congrArg Prod.snd h2).symm⟩
theorem dT_len (T : List (Int × Nat)) : (dT T).length = T.length := by simp [dT]
/-- for r, c in d.items() -/
theorem q_forItems {k1 k2 : Nat} {M : List Int} {L : Int} (h : EvD te σ H fun kvs => DTal kvs M L) (Pv : Addr → Obj → List (Int × Nat) → List (Int × Nat) → L2.St → Hp → Prop)
    (h0 : ∀ d od T H1, Ex H H1 → Tally T M L → H1 d = some (.frz od (.dK (dT T))) → Pv d od T [] σ H1) (hl : ∀ d od T pre σ' H', Pv d od T pre σ' H' → H' d = some (.frz od (.dK (dT T))))
    (hs : ∀ d od T pre r c post A σ' H', T = pre ++ (r, c) :: post → Tally T M L → Pv d od T pre σ' H' → H' A = none →
      tu { D with nx := Pv d od T (pre ++ [(r, c)]), ct := Pv d od T (pre ++ [(r, c)]), bk := tz D } ((σ'.set k1 (some (.int r))).set k2 (some (.int ((c : Nat) : Int)))) (upd H' A (.tup [.int r, .int ((c : Nat) : Int)])))
    (hd : ∀ d od T σ' H', Tally T M L → Pv d od T T σ' H' → tz D σ' H') : tSeq (tFor (iItems (tFrz te)) (g2 K k1 k2) tu) tz D σ H := by
  unfold tSeq tFor iItems
  dsimp only
  refine h.frz fun d od kvs H2 e2 h2 gd => ?_
  obtain ⟨T, rfl, tl⟩ := gd.tally
  refine ⟨d, od, _, rfl, h2, fun i m σ' H' => m = T.length - i ∧ i ≤ T.length ∧ Pv d od T (T.take i) σ' H', ⟨T.length, by simp, Nat.zero_le _, by simpa using h0 d od T H2 e2 tl h2⟩, ?_⟩
  rintro i m σ' H' ⟨rfl, hi, p⟩
  have q := hl d od T _ _ _ p
  by_cases hlt : i < T.length
  · refine .inr ⟨⟨q, by rw [dT_len]; exact hlt⟩, Pv d od T (T.take (i + 1)), fun σ' H' p' => ⟨T.length - (i + 1), by omega, rfl, hlt, p'⟩, fun x H3 y => ?_⟩
    obtain ⟨A, ky, v, hk, rfl, hA, rfl⟩ := y
    obtain ⟨r, c, h3, rfl, rfl⟩ := dT_at hk
    have e : T.take (i + 1) = T.take i ++ [(r, c)] := by rw [List.take_add_one, h3]; rfl
    rw [e]
    exact g2_go upd_same (hs d od T _ r c _ A _ _ (split_at h3) tl p hA)
  · have e : i = T.length := by omega
    subst e
    rw [List.take_length] at p
    exact .inl ⟨⟨q, by rw [dT_len]; exact Nat.le_refl _⟩, hd d od T _ _ tl p⟩
/-- sum([f(c) for c in d.values()]) -/
theorem ev_sumVals {k : Nat} {vs : List Nat} {M : List Int} {L X : Int} (h : EvD te σ H fun kvs => DTal kvs M L) (hM : M.length ≤ 50000) (hw : ∀ x, wipe ((wipe σ vs).set k (some x)) vs = wipe σ vs)
    (he : ∀ c : Nat, c ≤ M.length → Ev tx ((wipe σ vs).set k (some (.int ((c : Nat) : Int)))) H (.int (tri c))) (hX : ∀ T, Tally T M L → lowSum T = X) :
    Ev (tCB (rSum K) (tCons (tLc (iVals (tFrz te)) (gName k) tYes tx vs) tNil)) σ H (.int X) := fun H0 e Q q => by
  unfold tCB tCons tLc iVals
  dsimp only
  refine (h.mono e).frz fun d od kvs H1 e1 h1 gd => ⟨d, od, kvs, rfl, h1, fun Dl hD => ?_⟩
  obtain ⟨T, rfl, tl⟩ := gd.tally
  have hlen : T.length ≤ M.length := by have := gd.len; rw [dT_len] at this; exact this
  refine ⟨fun i m H' => m = T.length - i ∧ i ≤ T.length ∧ Cg H1 Dl ((T.take i).filterMap fun p => some (V.int (tri p.2))) H', ⟨T.length, by simp, Nat.zero_le _, Cg.start hD⟩, ?_⟩
  rintro i m H' ⟨rfl, hi, p⟩
  have q' : H' d = some (.frz od (.dK (dT T))) := p.2.1 _ _ h1
  by_cases hlt : i < T.length
  · refine .inr ⟨⟨q', by rw [dT_len]; exact hlt⟩, fun H' => Cg H1 Dl ((T.take (i + 1)).filterMap fun p => some (V.int (tri p.2))) H', fun H' p' => ⟨T.length - (i + 1), by omega, rfl, hlt, p'⟩, fun x H3 y => ?_⟩
    obtain ⟨rfl, ky, hk⟩ := y
    obtain ⟨r, c, h3, rfl, rfl⟩ := dT_at hk
    refine ⟨hw _, ?_⟩
    rw [take_fm _ h3]
    have hc : c ≤ M.length := by
      obtain ⟨h4, _⟩ := (tl.mem r c).mp (List.mem_of_getElem? h3)
      rw [h4]
      exact cnt_le _ _ _
    exact cg_turn p (by have := fm_len T (fun p => some (V.int (tri p.2))) i; omega) et_yes fun y hy => by
      cases hy
      exact (he c hc).mono ((e.trans e1).trans p.2.1)
  · have e3 : i = T.length := by omega
    subst e3
    rw [List.take_length] at p
    refine .inl ⟨⟨q', by rw [dT_len]; exact Nat.le_refl _⟩, Dl, T.map fun p => tri p.2, rfl, ?_, ?_⟩
    · have e4 : (T.filterMap fun p => some (V.int (tri p.2))) = (T.map fun p => tri p.2).map V.int := by
        rw [List.map_map]
        exact congrFun (List.filterMap_eq_map (f := fun p : Int × Nat => V.int (tri p.2))) _
      rw [← e4]
      exact .inl (.inl p.2.2)
    · have := hX T tl
      unfold lowSum at this
      rw [this]
      exact q _ (e1.trans p.2.1)
/-- found.extend(a new list) -/
theorem s_extN {l : Addr} (hl : H l = some (.lst (ns.map V.int))) (ha : Ev ta σ H (.ref l)) (h : EvL te σ H (ms.map V.int)) (hz : ns.length + ms.length ≤ 100000) (q : ∀ H1, Ex H H1 → D.nx σ (upd H1 l (.lst ((ns ++ ms).map V.int)))) :
    tDrop (tBM K "list" rExtend ta (tCons te tNil)) D σ H := ha H (Ex.refl H) _ fun H1 e1 => ⟨Or.inl ⟨rfl, _, sq_of (e1 l _ hl)⟩, h H1 e1 _ fun p H2 hp e2 h2 =>
  ⟨l, p, _, _, rfl, rfl, e2 l _ (e1 l _ hl), h2, by rw [List.length_map, List.length_map]; exact sz_of hz, by
    rw [← List.map_append]
    exact q H2 (e1.trans e2)⟩⟩
/-- xs.append(n) -/
theorem s_appI {l : Addr} (hl : H l = some (.lst (ns.map V.int))) (ha : Ev ta σ H (.ref l)) (h : Ev te σ H (.int i)) (hz : ns.length < 100000) (q : ∀ H1, Ex H H1 → D.nx σ (upd H1 l (.lst ((ns ++ [i]).map V.int)))) :
    tDrop (tBM K "list" rAppend ta (tCons te tNil)) D σ H := s_app hl ha h (by rw [List.length_map]; exact hz) fun H1 e => by
  have := q H1 e
  rw [List.map_append] at this
  exact this
theorem q_appI {l : Addr} (hl : H l = some (.lst (ns.map V.int))) (ha : Ev ta σ H (.ref l)) (h : Ev te σ H (.int i)) (hz : ns.length < 100000) (q : ∀ H1, Ex H H1 → tz D σ (upd H1 l (.lst ((ns ++ [i]).map V.int)))) :
    tSeq (tDrop (tBM K "list" rAppend ta (tCons te tNil))) tz D σ H := s_appI (D := { D with nx := tz D }) hl ha h hz q
/-- a call that gives None, alone as a statement -/
theorem q_chk (h : Ev te σ H v) (q : ∀ H1, Ex H H1 → tz D σ H1) : tSeq (tDrop te) tz D σ H := q_drop h q
/-- n not in a new list of ints -/
theorem inV_int (n : Int) : ∀ ms : List Int, inV (.int n) (ms.map V.int) = decide (n ∈ ms)
  | [] => by simp [inV]
  | m :: r => by
    have ih := inV_int n r
    unfold inV at ih ⊢
    rw [List.map_cons, List.any_cons, ih]
    show (m == n || decide (n ∈ r)) = decide (n ∈ m :: r)
    rw [Bool.eq_iff_iff]
    simp only [Bool.or_eq_true, beq_iff_eq, decide_eq_true_eq, List.mem_cons]
    constructor
    · rintro (h | h)
      · exact .inl h.symm
      · exact .inr h
    · rintro (h | h)
      · exact .inl h.symm
      · exact .inr h
theorem flat_ints (ms : List Int) : (ms.map V.int).all flatV = true := by
  rw [List.all_map, List.all_eq_true]
  intro x _
  rfl
theorem ev_ninI (h : Ev ta σ H (.int i)) (hl : EvL tb σ H (ms.map V.int)) : Ev (tOp (rIn K true) ta tb) σ H (.bl (!decide (i ∈ ms))) := by
  rw [← inV_int]
  exact ev_opL h hl fun _ _ hp e => rv_niL (sq_of hp) rfl (flat_ints ms)
/-- the counts of a list's rests -/
theorem ed_counts0 {E : XK} {L : Int} (h : Ev ta σ H (.ref a)) (hs : SqL K H a (ns.map V.int)) (hL : Ev tb σ H (.int L)) (hl : ns.length ≤ 30000) (h0 : 0 < L) : EvD (tCall (sp_counts_of K) [] E (tCons ta (tCons tb tNil))) σ H fun kvs => DTal kvs ns L := fun H1 e Q q =>
  h H1 e _ fun H2 e2 => hL H2 (e.trans e2) _ fun H3 e3 => ⟨a, ns, L, rfl, ex_l ((e.trans e2).trans e3) hs, ⟨hl, h0⟩, fun p kvs H4 hp e4 h4 dt => q p kvs H4 (fresh_back (e2.trans e3) hp) ((e2.trans e3).trans e4) h4 dt⟩
theorem ed_counts {E : XK} {L : Int} (h : EvL ta σ H (ns.map V.int)) (hL : Ev tb σ H (.int L)) (hl : ns.length ≤ 30000) (h0 : 0 < L) : EvD (tCall (sp_counts_of K) [] E (tCons ta (tCons tb tNil))) σ H fun kvs => DTal kvs ns L := fun H1 e Q q =>
  h H1 e _ fun a H2 _ e2 h2 => hL H2 (e.trans e2) _ fun H3 e3 => ⟨a, ns, L, rfl, sq_map (e3 _ _ h2), ⟨hl, h0⟩, fun p kvs H4 hp e4 h4 dt => q p kvs H4 (fresh_back (e2.trans e3) hp) ((e2.trans e3).trans e4) h4 dt⟩
theorem div_ok {L : Int} (h : 0 < L) (h2 : L.natAbs.log2 < 9000) : CDivW i L := ⟨h, h2⟩
theorem mul_small (h : -(2 ^ 64) < i ∧ i < 2 ^ 64) : IntMulOk i j := CMul.ok (.inl h)
theorem mul_smallR (h : -(2 ^ 64) < j ∧ j < 2 ^ 64) : IntMulOk i j := CMul.ok (.inr h)
end
end Rh

namespace Rh
open PySem PySem.Spec PyProof.Rows L2 Evl

def cellAt (ns : List Int) (k : Int) : Int := ns.getD k.toNat 0
def primes : List Int := [1000003, 1000033, 1000037, 1000039, 1000081, 1000099, 1000117, 1000121, 1000133, 1000151, 1000159, 1000171, 1000183, 1000187, 1000193, 1000199]
def prime (k : Int) : Int := primes.getD (k % 16).toNat 1
def draw (c k m : Int) : Int := (c * 48271 + k * 69621) % prime k % m
abbrev t18 : Int := 1000000000000000000
abbrev t60 : Int := 1000000000000000000000000000000000000000000000000000000000000
def value (c k m : Int) : Int := if t18 ≤ c then (c - t18) % t60 else draw ((c + 977 * k) * (c + 31 * k + 5)) (k % 9 + 1) m
theorem draw_ok (c k : Int) {m : Int} (h : 0 < m) : 0 ≤ draw c k m ∧ draw c k m < m := rest_ok h _
theorem prime_pos (k : Int) : 0 < prime k := by
  have h := rest_ok (show (0 : Int) < 16 by decide) k
  unfold prime
  have : ∀ j : Nat, j < 16 → 0 < primes.getD j 1 := by decide
  exact this _ (by omega)
theorem prime_at (k : Int) : primes[(k % 16).toNat]? = some (prime k) := by
  have h := rest_ok (show (0 : Int) < 16 by decide) k
  have hl : (k % 16).toNat < primes.length := by show _ < 16; omega
  unfold prime
  rw [List.getD_eq_getElem?_getD, List.getElem?_eq_getElem hl]
  rfl
theorem value_ok (c k : Int) {m : Int} (h : 0 < m) (h2 : m ≤ 1000000) : 0 ≤ value c k m ∧ value c k m < t60 := by
  unfold value
  split
  · exact rest_ok (by decide) _
  · have := draw_ok ((c + 977 * k) * (c + 31 * k + 5)) (k % 9 + 1) h
    have e : (1000000 : Int) < t60 := by decide
    exact ⟨this.1, by omega⟩

theorem bits_lt {x : Int} {b : Nat} (h : Builtin.Int.intBits x ≤ b) : x.natAbs < 2 ^ b := by
  unfold Builtin.Int.intBits at h
  split at h
  · rename_i e
    have : x = 0 := by simpa using e
    subst this
    exact Nat.two_pow_pos b
  · rename_i e
    have h0 : x.natAbs ≠ 0 := by
      intro z
      apply e
      have : x = 0 := Int.natAbs_eq_zero.mp z
      simp [this]
    exact (Nat.log2_lt h0).mp (by omega)
theorem bits_le {x : Int} {b : Nat} (h : x.natAbs < 2 ^ b) : Builtin.Int.intBits x ≤ b := by
  unfold Builtin.Int.intBits
  split
  · exact Nat.zero_le _
  · rename_i e
    have h0 : x.natAbs ≠ 0 := by
      intro z
      apply e
      have : x = 0 := Int.natAbs_eq_zero.mp z
      simp [this]
    have := (Nat.log2_lt h0).mpr h
    omega
theorem bits_add {x y : Int} {b : Nat} (hx : Builtin.Int.intBits x ≤ b) (hy : Builtin.Int.intBits y ≤ b) : Builtin.Int.intBits (x + y) ≤ b + 1 := by
  have h1 := bits_lt hx
  have h2 := bits_lt hy
  have e : 2 ^ (b + 1) = 2 ^ b + 2 ^ b := by rw [Nat.pow_succ]; omega
  refine bits_le ?_
  rw [e]
  generalize 2 ^ b = z at h1 h2
  omega
theorem bits_mono {x : Int} {a b : Nat} (h : Builtin.Int.intBits x ≤ a) (hab : a ≤ b) : Builtin.Int.intBits x ≤ b := Nat.le_trans h hab
theorem bits_small {x : Int} (h : -(2 ^ 64) < x ∧ x < 2 ^ 64) : Builtin.Int.intBits x ≤ 64 := intBits_le_64 h.1 h.2
theorem mul_bits {i j : Int} {a b : Nat} (hi : Builtin.Int.intBits i ≤ a) (hj : Builtin.Int.intBits j ≤ b) (h : a + b ≤ 100000000) : IntMulOk i j := by
  have e : Builtin.Int.intTooBig (Builtin.Int.intBits i + Builtin.Int.intBits j) = false := by
    unfold Builtin.Int.intTooBig
    rw [bitsLine_eq]
    exact decide_eq_false (by omega)
  unfold IntMulOk
  rw [e]
  simp
theorem log_lt {x : Int} {b : Nat} (h0 : 0 < b) (h : x.natAbs < 2 ^ b) : x.natAbs.log2 < b := PySem.Flt.log2_lt_of h0 h
abbrev Bits (ns : List Int) : Prop := ∀ z ∈ ns, Builtin.Int.intBits z ≤ 1048576
theorem cell_bits {ns : List Int} (h : Bits ns) (k : Int) : Builtin.Int.intBits (cellAt ns k) ≤ 1048576 := by
  unfold cellAt
  rw [List.getD_eq_getElem?_getD]
  cases e : ns[k.toNat]? with
  | none => exact Nat.zero_le _
  | some x => exact h x (List.mem_of_getElem? e)

def tot (b : Int) (l : List Int) : Int := 1 + (l.zipIdx.map fun p => value p.1 ((p.2 : Nat) + b) 3).sum
def psums (b : Int) (l : List Int) : List Int := (List.range l.length).map fun i => tot b (l.take (i + 1))
theorem tot_snoc (b : Int) (l : List Int) (n : Int) : tot b (l ++ [n]) = tot b l + value n ((l.length : Nat) + b) 3 := by
  unfold tot
  rw [List.zipIdx_append, List.map_append, List.sum_append]
  simp
  omega
theorem psums_snoc (b : Int) (l : List Int) (n : Int) : psums b (l ++ [n]) = psums b l ++ [tot b (l ++ [n])] := by
  unfold psums
  rw [List.length_append, List.length_singleton, List.range_succ, List.map_append]
  congr 1
  · refine List.map_congr_left fun i hi => ?_
    have := List.mem_range.mp hi
    rw [List.take_append_of_le_length (by omega)]
  · rw [List.map_singleton, List.take_of_length_le (by rw [List.length_append, List.length_singleton]; exact Nat.le_refl _)]
theorem tot_ok (b : Int) : ∀ (l : List Int) , 1 ≤ tot b l ∧ tot b l ≤ 1 + (l.length : Int) * t60 := by
  intro l
  suffices h : ∀ (k : Nat), 0 ≤ ((l.zipIdx k).map fun p => value p.1 ((p.2 : Nat) + b) 3).sum ∧ ((l.zipIdx k).map fun p => value p.1 ((p.2 : Nat) + b) 3).sum ≤ (l.length : Int) * t60 by
    have := h 0
    unfold tot
    omega
  induction l with
  | nil => intro k; simp
  | cons x r ih =>
    intro k
    have h1 := ih (k + 1)
    have h2 := value_ok x ((k : Nat) + b) (show (0 : Int) < 3 by decide) (by decide)
    rw [List.zipIdx_cons, List.map_cons, List.sum_cons, List.length_cons]
    generalize ((r.zipIdx (k + 1)).map fun p => value p.1 ((p.2 : Nat) + b) 3).sum = s at h1
    have e : ((r.length + 1 : Nat) : Int) * t60 = (r.length : Int) * t60 + t60 := by
      have : ((r.length + 1 : Nat) : Int) = (r.length : Int) + 1 := by omega
      rw [this, Int.add_mul, Int.one_mul]
    rw [e]
    show 0 ≤ value x (((k : Nat) : Int) + b) 3 + s ∧ value x (((k : Nat) : Int) + b) 3 + s ≤ _
    omega
def kindM (s : List Int) (b : Int) : Int := draw (cellAt s 0 + b) 6 6
def mostM (s : List Int) (b : Int) : Int := ([3, 9, 70, 900000] : List Int).getD (draw (cellAt s 1 + b) 7 4).toNat 1
def rows0 (s : List Int) (b : Int) : List Int := s.zipIdx.map fun p => 1 + value p.1 ((p.2 : Nat) + b) (mostM s b)
def rows1 (s : List Int) (b : Int) : List Int := if kindM s b = 0 then psums b s else rows0 s b
def rows2 (s : List Int) (b : Int) : List Int := if kindM s b = 1 then (rows1 s b).take 40 ++ (rows1 s b).take 40 else rows1 s b
def heapM (ns : List Int) (b : Int) : List Int := sortD (rows2 (ns.take 63) b)
def smallM (ns : List Int) (b : Int) : List Int := sortD ((ns.take 12).zipIdx.map fun p => 1 + value p.1 ((p.2 : Nat) + b) 16 % 16)
theorem most_at (s : List Int) (b : Int) : ([3, 9, 70, 900000] : List Int)[(draw (cellAt s 1 + b) 7 4).toNat]? = some (mostM s b) ∧ 0 < mostM s b ∧ mostM s b ≤ 1000000 := by
  have h := draw_ok (cellAt s 1 + b) 7 (show (0 : Int) < 4 by decide)
  have : ∀ j : Nat, j < 4 → ([3, 9, 70, 900000] : List Int)[j]? = some (([3, 9, 70, 900000] : List Int).getD j 1) ∧ 0 < ([3, 9, 70, 900000] : List Int).getD j 1 ∧ ([3, 9, 70, 900000] : List Int).getD j 1 ≤ 1000000 := by decide
  exact this _ (by omega)
/-- rows of a heap that the law makes: from 1 on, bounded -/
def Row (x : Int) : Prop := 1 ≤ x ∧ x < 100 * t60
theorem rows0_ok (s : List Int) (b : Int) : (∀ x ∈ rows0 s b, Row x) ∧ (rows0 s b).length = s.length := by
  unfold rows0
  refine ⟨fun x hx => ?_, by simp⟩
  obtain ⟨p, _, rfl⟩ := List.mem_map.mp hx
  have h := most_at s b
  have := value_ok p.1 ((p.2 : Nat) + b) h.2.1 h.2.2
  unfold Row
  omega
theorem rows1_ok (s : List Int) (b : Int) (hs : s.length ≤ 63) : (∀ x ∈ rows1 s b, Row x) ∧ (rows1 s b).length = s.length := by
  unfold rows1
  split
  · refine ⟨fun x hx => ?_, by simp [psums]⟩
    obtain ⟨i, _, rfl⟩ := List.mem_map.mp hx
    have := tot_ok b (s.take (i + 1))
    have hl : (s.take (i + 1)).length ≤ 63 := by
      rw [List.length_take]
      omega
    have e : ((s.take (i + 1)).length : Int) * t60 ≤ 63 * t60 := Int.mul_le_mul_of_nonneg_right (by omega) (by decide)
    have hb : (1000 : Int) < t60 := by decide
    unfold Row
    omega
  · exact rows0_ok s b
theorem rows2_ok (s : List Int) (b : Int) (hs : s.length ≤ 63) : (∀ x ∈ rows2 s b, Row x) ∧ (rows2 s b).length ≤ 80 ∧ (rows2 s b).length ≤ 2 * s.length := by
  obtain ⟨h1, h2⟩ := rows1_ok s b hs
  unfold rows2
  split
  · refine ⟨fun x hx => ?_, ?_, ?_⟩
    · rcases List.mem_append.mp hx with q | q <;> exact h1 x (List.mem_of_mem_take q)
    · rw [List.length_append, List.length_take]
      omega
    · rw [List.length_append, List.length_take]
      omega
  · exact ⟨h1, by omega, by omega⟩
structure Made (h : List Int) : Prop where
  heap : IsHeap h
  row : ∀ x ∈ h, Row x
  len : h.length ≤ 80
theorem made_sort {R : List Int} (h : ∀ x ∈ R, Row x) (hl : R.length ≤ 80) : Made (sortD R) := by
  have p := sortD_perm R
  refine ⟨⟨fun x hx => ?_, sortD_falls R⟩, fun x hx => h x (p.mem_iff.mp hx), by rw [p.length_eq]; exact hl⟩
  have := h x (p.mem_iff.mp hx)
  unfold Row at this
  omega
theorem heapM_made (ns : List Int) (b : Int) : Made (heapM ns b) := by
  have h := rows2_ok (ns.take 63) b (by rw [List.length_take]; omega)
  exact made_sort h.1 h.2.1
theorem smallM_row (ns : List Int) (b : Int) : ∀ x ∈ smallM ns b, 1 ≤ x ∧ x ≤ 16 := by
  intro x hx
  obtain ⟨p, _, rfl⟩ := List.mem_map.mp ((sortD_perm _).mem_iff.mp hx)
  have := rest_ok (show (0 : Int) < 16 by decide) (value p.1 ((p.2 : Nat) + b) 16)
  omega
theorem smallM_len (ns : List Int) (b : Int) : (smallM ns b).length ≤ 12 := by
  unfold smallM
  rw [(sortD_perm _).length_eq, List.length_map, List.length_zipIdx, List.length_take]
  omega
theorem smallM_made (ns : List Int) (b : Int) : Made (smallM ns b) := by
  refine ⟨⟨fun x hx => by have := smallM_row ns b x hx; omega, sortD_falls _⟩, fun x hx => ?_, by have := smallM_len ns b; omega⟩
  have := smallM_row ns b x hx
  have e : (16 : Int) < 100 * t60 := by decide
  unfold Row
  omega
/-- marks of such a heap are bounded -/
theorem made_mark {h : List Int} (m : Made h) {x : Int} (hx : x ∈ marksOf h) : 1 ≤ x ∧ x < 200 * t60 := by
  have h1 := heap_marks m.heap x hx
  have : ∀ l : List Int, (∀ y ∈ l, Row y) → ∀ x ∈ marksOf l, x < 100 * t60 + (l.length : Int) := by
    intro l
    induction l with
    | nil => intro _ x hx; cases hx
    | cons y r ih =>
      intro hl x hx
      rw [List.length_cons]
      rcases List.mem_cons.mp hx with e | e
      · have := hl y List.mem_cons_self
        unfold Row at this
        omega
      · have := ih (fun z hz => hl z (List.mem_cons_of_mem _ hz)) x e
        omega
  have h2 := this h m.row x hx
  have h3 := m.len
  have e : (80 : Int) < t60 := by decide
  omega
def mid (h : List Int) : List Int := marksOf h ++ [1]
def lengthsM (ns h : List Int) : List Int :=
  [1, 2 + draw (cellAt ns 3) 4 7, 1 + draw (cellAt ns 4) 5 90] ++ [(mid h).getD 0 0 + 1, max 1 ((mid h).getD 0 0), max 1 ((mid h).getD ((mid h).length / 2) 0)] ++ [1 + value (cellAt ns 5) 6 900000]
/-- a length that the law makes -/
def Lgth (L : Int) : Prop := 1 ≤ L ∧ L < 300 * t60
theorem Lgth.log {L : Int} (h : Lgth L) : L.natAbs.log2 < 9000 := by
  have : L.natAbs < 2 ^ 220 := by
    have e : (300 * t60) < (2 : Int) ^ 220 := by decide
    have h1 := h.1
    have h2 := h.2
    have e2 : ((2 ^ 220 : Nat) : Int) = (2 : Int) ^ 220 := by decide
    omega
  have := log_lt (by decide) this
  omega
theorem mid_at {h : List Int} (m : Made h) {k : Nat} (hk : k < (mid h).length) : (mid h)[k]? = some ((mid h).getD k 0) ∧ 1 ≤ (mid h).getD k 0 ∧ (mid h).getD k 0 < 200 * t60 := by
  have e : (mid h)[k]? = some ((mid h).getD k 0) := by rw [List.getD_eq_getElem?_getD, List.getElem?_eq_getElem hk]; rfl
  refine ⟨e, ?_⟩
  have hm := List.mem_of_getElem? e
  rcases List.mem_append.mp hm with q | q
  · exact made_mark m q
  · have : (mid h).getD k 0 = 1 := by simpa using q
    rw [this]
    decide
theorem mid_len (h : List Int) : (mid h).length = h.length + 1 := by simp [mid, marksOf_len]
theorem lengths_ok (ns : List Int) {h : List Int} (m : Made h) : ∀ L ∈ lengthsM ns h, Lgth L := by
  have hl := mid_len h
  have h0 := mid_at m (show 0 < (mid h).length by omega)
  have h1 := mid_at m (show (mid h).length / 2 < (mid h).length by omega)
  have d1 := draw_ok (cellAt ns 3) 4 (show (0 : Int) < 7 by decide)
  have d2 := draw_ok (cellAt ns 4) 5 (show (0 : Int) < 90 by decide)
  have d3 := value_ok (cellAt ns 5) 6 (show (0 : Int) < 900000 by decide) (by decide)
  have e : (1000 : Int) < t60 := by decide
  intro L hL
  unfold lengthsM at hL
  simp only [List.mem_append, List.mem_cons, List.not_mem_nil, or_false] at hL
  unfold Lgth
  omega
end Rh
namespace Rh
open PySem PySem.Spec PyProof.Rows L2 Evl
theorem made_sum {h : List Int} (m : Made h) : 0 ≤ h.sum ∧ h.sum < 10000 * t60 := by
  have : ∀ l : List Int, (∀ y ∈ l, Row y) → 0 ≤ l.sum ∧ l.sum ≤ (l.length : Int) * (100 * t60) := by
    intro l
    induction l with
    | nil => intro _; exact ⟨Int.le_refl 0, by simp⟩
    | cons y r ih =>
      intro hl
      have h1 := ih fun z hz => hl z (List.mem_cons_of_mem _ hz)
      have h2 := hl y List.mem_cons_self
      unfold Row at h2
      rw [List.sum_cons, List.length_cons]
      have e : ((r.length + 1 : Nat) : Int) * (100 * t60) = (r.length : Int) * (100 * t60) + 100 * t60 := by
        have : ((r.length + 1 : Nat) : Int) = (r.length : Int) + 1 := by omega
        rw [this, Int.add_mul, Int.one_mul]
      omega
  have h1 := this h m.row
  have h2 := m.len
  have e : (h.length : Int) * (100 * t60) ≤ 80 * (100 * t60) := Int.mul_le_mul_of_nonneg_right (by omega) (by decide)
  have hb : (1000 : Int) < t60 := by decide
  omega
theorem bits_of_lt {x : Int} (h0 : 0 ≤ x) (h : x < 10000 * t60) : Builtin.Int.intBits x ≤ 220 := by
  refine bits_le ?_
  have e : (10000 * t60) < (2 : Int) ^ 220 := by decide
  have e2 : ((2 ^ 220 : Nat) : Int) = (2 : Int) ^ 220 := by decide
  omega
theorem Lgth.bits {L : Int} (h : Lgth L) : Builtin.Int.intBits L ≤ 220 := by
  have h1 := h.1
  have h2 := h.2
  have hb : (1000 : Int) < t60 := by decide
  exact bits_of_lt (by omega) (by omega)
theorem rims_bits {h : List Int} {L : Int} (m : Made h) (hL : 0 < L) : Builtin.Int.intBits (rimsIn h L) ≤ 220 := by
  have h1 := rims_le m.heap hL
  have h2 := made_sum m
  exact bits_of_lt h1.1 (by omega)
end Rh

namespace Rh
open PySem PySem.Spec PyProof.Rows L2 Evl
theorem cut_take (xs : List V) (k : Nat) : cutV xs none (some (k : Int)) = xs.take k := by
  unfold cutV
  rw [HT.sIx_none, HT.sIx_nat, List.drop_zero, Nat.sub_zero]
  exact (List.take_eq_take_min).symm
theorem cut_drop (xs : List V) (k : Nat) : cutV xs (some (k : Int)) none = xs.drop k := by
  unfold cutV
  rw [HT.sIx_none, HT.sIx_nat]
  by_cases h : k ≤ xs.length
  · rw [Nat.min_eq_left h, List.take_of_length_le (by rw [List.length_drop]; exact Nat.le_refl _)]
  · rw [Nat.min_eq_right (by omega), Nat.sub_self, List.take_zero, List.drop_of_length_le (by omega)]
/-- xs[-k:] -/
theorem cut_last (xs : List V) (k : Nat) (hk : 0 < k) : cutV xs (some (-(k : Int))) none = xs.drop (xs.length - k) := by
  unfold cutV
  have e : HT.sIx xs.length 0 (some (-(k : Int))) = xs.length - k := by
    show (if -(k : Int) < 0 then (-(k : Int) + (xs.length : Int)).toNat else _) = _
    rw [if_pos (by omega)]
    omega
  rw [HT.sIx_none, e, List.take_of_length_le (by rw [List.length_drop]; exact Nat.le_refl _)]
/-- xs[:-k] -/
theorem cut_but (xs : List V) (k : Nat) (hk : 0 < k) : cutV xs none (some (-(k : Int))) = xs.take (xs.length - k) := by
  unfold cutV
  have e : HT.sIx xs.length xs.length (some (-(k : Int))) = xs.length - k := by
    show (if -(k : Int) < 0 then (-(k : Int) + (xs.length : Int)).toNat else _) = _
    rw [if_pos (by omega)]
    omega
  rw [HT.sIx_none, e, List.drop_zero, Nat.sub_zero]
section
variable {K : PySem.W.Frag} {σ : L2.St} {H H' : Hp} {ta tb te tx tl : TE} {t u : TT} {x y z v : V} {i j : Int} {a : Addr} {ns ms : List Int} {D : Ends} {tu tw tz : TS} {g : TG} {tg : TA}
theorem el_as {xs ys : List V} (h : EvL te σ H xs) (e : xs = ys) : EvL te σ H ys := by
  rw [← e]
  exact h
theorem ea_one (h : Ev ta σ H x) : EvA (tCons ta tNil) σ H [x] := ea_cons h ea_nil
theorem ea_two (h : Ev ta σ H x) (h2 : Ev tb σ H y) : EvA (tCons ta (tCons tb tNil)) σ H [x, y] := ea_cons h (ea_cons h2 ea_nil)
theorem ea_three (h : Ev ta σ H x) (h2 : Ev tb σ H y) (h3 : Ev tx σ H z) : EvA (tCons ta (tCons tb (tCons tx tNil))) σ H [x, y, z] := ea_cons h (ea_cons h2 (ea_cons h3 ea_nil))
theorem el_takeI {k : Nat} (h : Ev te σ H (.ref a)) (hs : SqL K H a (ns.map V.int)) (hk : Ev tb σ H (.int (k : Int))) : EvL (tSl (rSlL K) te tNoPart (tPart tb)) σ H ((ns.take k).map V.int) :=
  el_as (el_sl h eo_none (eo_some hk) hs) (by rw [cut_take, List.map_take])
theorem el_dropI {k : Nat} (h : Ev te σ H (.ref a)) (hs : SqL K H a (ns.map V.int)) (hk : Ev tb σ H (.int (k : Int))) : EvL (tSl (rSlL K) te (tPart tb) tNoPart) σ H ((ns.drop k).map V.int) :=
  el_as (el_sl h (eo_some hk) eo_none hs) (by rw [cut_drop, List.map_drop])
/-- the same of a new list -/
theorem el_slN {tl th : TO} {xs ys : List V} {lo hi : Option Int} (h : EvL te σ H xs) (h1 : EvO tl σ H lo) (h2 : EvO th σ H hi) (e : cutV xs lo hi = ys) : EvL (tSl (rSlL K) te tl th) σ H ys := by
  subst e
  exact fun H1 e Q q => h H1 e _ fun p H2 _ e2 h3 => h1 H2 (e.trans e2) _ fun H3 e3 => h2 H3 ((e.trans e2).trans e3) _ fun H4 e4 =>
    ⟨p, xs, rfl, sq_of ((e3.trans e4) _ _ h3), fun p' hp => q p' _ (fresh_back ((e2.trans e3).trans e4) hp) (((e2.trans e3).trans e4).trans (Ex.new hp)) upd_same⟩
theorem el_takeN {k : Nat} (h : EvL te σ H (ns.map V.int)) (hk : Ev tb σ H (.int (k : Int))) : EvL (tSl (rSlL K) te tNoPart (tPart tb)) σ H ((ns.take k).map V.int) :=
  el_slN h eo_none (eo_some hk) (by rw [cut_take, List.map_take])
theorem el_dropN {k : Nat} (h : EvL te σ H (ns.map V.int)) (hk : Ev tb σ H (.int (k : Int))) : EvL (tSl (rSlL K) te (tPart tb) tNoPart) σ H ((ns.drop k).map V.int) :=
  el_slN h (eo_some hk) eo_none (by rw [cut_drop, List.map_drop])
theorem el_revI (h : Ev te σ H (.ref a)) (hs : SqL K H a (ns.map V.int)) : EvL (tRevL K te) σ H (ns.reverse.map V.int) := fun H1 e Q q =>
  h H1 e _ fun H2 e2 => ⟨a, _, rfl, ex_l (e.trans e2) hs, fun p hp => q p _ (fresh_back e2 hp) (e2.trans (Ex.new hp)) (by rw [upd_same, List.map_reverse])⟩
/-- a + b, lists that stand or are new -/
theorem el_catX {a b : Addr} {xs ys : List V} (h : Ev ta σ H (.ref a)) (ha : H a = some (.lst xs)) (h2 : Ev tb σ H (.ref b)) (hb : H b = some (.lst ys)) (hz : xs.length + ys.length ≤ 100000) : EvL (tOp rCat ta tb) σ H (xs ++ ys) := fun H1 e Q q =>
  h H1 e _ fun H2 e2 => h2 H2 (e.trans e2) _ fun H3 e3 => ⟨a, b, xs, ys, rfl, rfl, ((e.trans e2).trans e3) _ _ ha, ((e.trans e2).trans e3) _ _ hb, sz_of hz, fun p hp => q p _ (fresh_back (e2.trans e3) hp) ((e2.trans e3).trans (Ex.new hp)) upd_same⟩
theorem el_catXN {a : Addr} {xs ys : List V} (h : Ev ta σ H (.ref a)) (ha : H a = some (.lst xs)) (h2 : EvL tb σ H ys) (hz : xs.length + ys.length ≤ 100000) : EvL (tOp rCat ta tb) σ H (xs ++ ys) := fun H1 e Q q =>
  h H1 e _ fun H2 e2 => h2 H2 (e.trans e2) _ fun b H3 _ e3 hb => ⟨a, b, xs, ys, rfl, rfl, ((e.trans e2).trans e3) _ _ ha, hb, sz_of hz, fun p hp => q p _ (fresh_back (e2.trans e3) hp) ((e2.trans e3).trans (Ex.new hp)) upd_same⟩
theorem el_catNN {xs ys : List V} (h : EvL ta σ H xs) (h2 : EvL tb σ H ys) (hz : xs.length + ys.length ≤ 100000) : EvL (tOp rCat ta tb) σ H (xs ++ ys) := fun H1 e Q q =>
  h H1 e _ fun a H2 _ e2 ha => h2 H2 (e.trans e2) _ fun b H3 _ e3 hb => ⟨a, b, xs, ys, rfl, rfl, e3 _ _ ha, hb, sz_of hz, fun p hp => q p _ (fresh_back (e2.trans e3) hp) ((e2.trans e3).trans (Ex.new hp)) upd_same⟩
theorem el_catNX {b : Addr} {xs ys : List V} (h : EvL ta σ H xs) (h2 : Ev tb σ H (.ref b)) (hb : H b = some (.lst ys)) (hz : xs.length + ys.length ≤ 100000) : EvL (tOp rCat ta tb) σ H (xs ++ ys) := fun H1 e Q q =>
  h H1 e _ fun a H2 _ e2 ha => h2 H2 (e.trans e2) _ fun H3 e3 => ⟨a, b, xs, ys, rfl, rfl, e3 _ _ ha, ((e.trans e2).trans e3) _ _ hb, sz_of hz, fun p hp => q p _ (fresh_back (e2.trans e3) hp) ((e2.trans e3).trans (Ex.new hp)) upd_same⟩
/-- a new list, k times -/
theorem el_repN {xs : List V} {k : Nat} (h : EvL ta σ H xs) (h2 : Ev tb σ H (.int i)) (h1 : -(2 ^ 63) ≤ i ∧ i < 2 ^ 63) (hk : i.toNat = k) (hz : xs.length * k ≤ 100000) : EvL (tOp rRep ta tb) σ H (List.replicate k xs).flatten := fun H1 e Q q =>
  h H1 e _ fun a H2 _ e2 ha => h2 H2 (e.trans e2) _ fun H3 e3 => ⟨a, i, xs, rfl, rfl, e3 _ _ ha, h1.1, h1.2, by rw [hk]; exact sz_of hz, fun p hp => q p _ (fresh_back (e2.trans e3) hp) ((e2.trans e3).trans (Ex.new hp)) (by rw [upd_same, hk])⟩
theorem ev_ixtN {xs : List V} (h : EvU ta σ H xs) (h2 : Ev tb σ H (.int i)) (hx : atI xs i = some v) : Ev (tOp (rIxT K) ta tb) σ H v := fun H1 e Q q =>
  h H1 e _ fun p H2 _ e2 hp => h2 H2 (e.trans e2) _ fun H3 e3 => ⟨p, xs, i, v, rfl, rfl, st_of (e3 _ _ hp), hx, q H3 (e2.trans e3)⟩
theorem ev_ixt {p : Addr} {xs : List V} (h : Ev ta σ H (.ref p)) (hs : SqT K H p xs) (h2 : Ev tb σ H (.int i)) (hx : atI xs i = some v) : Ev (tOp (rIxT K) ta tb) σ H v := ev_op h h2 (rv_ixT hs hx)
theorem ev_ixl {p : Addr} {xs : List V} (h : Ev ta σ H (.ref p)) (hs : SqL K H p xs) (h2 : Ev tb σ H (.int i)) (hx : atI xs i = some v) : Ev (tOp (rIxL K) ta tb) σ H v := ev_op h h2 (rv_ixL hs hx)
theorem ev_max2I (ha : Ev ta σ H (.int i)) (hb : Ev tb σ H (.int j)) : Ev (tCB (fun xs H Q => ∃ i j, xs = [V.int i, .int j] ∧ Q (.int (if j > i then j else i)) H) (tCons ta (tCons tb tNil))) σ H (.int (max i j)) := fun H1 e Q q =>
  ha H1 e _ fun H2 e2 => hb H2 (e.trans e2) _ fun H3 e3 => ⟨i, j, rfl, by
    have h : (if j > i then j else i) = max i j := by omega
    rw [h]
    exact q H3 (e2.trans e3)⟩
theorem ev_neB {b c : Bool} (ha : Ev ta σ H (.bl b)) (hb : Ev tb σ H (.bl c)) : Ev (tOp rNe ta tb) σ H (.bl (!decide (b = c))) := by
  rw [← dec_b]
  exact ev_op ha hb (rv_ne rfl)
theorem el_nil : EvL (tLst tNil) σ H (([] : List Int).map V.int) := el_lst ea_nil (by decide)
/-- x, y = e, f -/
theorem q_par {k1 k2 : Nat} {vs : List V} (h : EvA tg σ H [x, y]) (q : ∀ H1, Ex H H1 → tz D ((σ.set k1 (some x)).set k2 (some y)) H1) : tSeq (tPar k1 k2 tg) tz D σ H :=
  h H (Ex.refl H) _ fun H1 e => ⟨x, y, rfl, q H1 e⟩
/-- x, y = e, a new list -/
theorem q_parXL {k1 k2 : Nat} {ys : List V} (h : Ev ta σ H x) (h2 : EvL tb σ H ys) (q : ∀ p H1, H p = none → Ex H H1 → H1 p = some (.lst ys) → tz D ((σ.set k1 (some x)).set k2 (some (.ref p))) H1) : tSeq (tPar k1 k2 (tCons ta (tCons tb tNil))) tz D σ H :=
  h H (Ex.refl H) _ fun H1 e => h2 H1 e _ fun p H2 hp e2 h3 => ⟨x, .ref p, rfl, q p H2 (fresh_back e hp) (e.trans e2) h3⟩
/-- x, y = a new list, e -/
theorem q_parLX {k1 k2 : Nat} {xs : List V} (h : EvL ta σ H xs) (h2 : ∀ (p : Addr) H1, Ex H H1 → Ev tb σ H1 y) (q : ∀ p H1, H p = none → Ex H H1 → H1 p = some (.lst xs) → tz D ((σ.set k1 (some (.ref p))).set k2 (some y)) H1) : tSeq (tPar k1 k2 (tCons ta (tCons tb tNil))) tz D σ H :=
  h H (Ex.refl H) _ fun p H1 hp e h3 => h2 p H1 e H1 (Ex.refl H1) _ fun H2 e2 => ⟨.ref p, y, rfl, q p H2 hp (e.trans e2) (e2 _ _ h3)⟩
/-- x, y = two new lists -/
theorem q_parLL {k1 k2 : Nat} {xs ys : List V} (h : EvL ta σ H xs) (h2 : EvL tb σ H ys) (q : ∀ p r H1, H p = none → H r = none → p ≠ r → Ex H H1 → H1 p = some (.lst xs) → H1 r = some (.lst ys) → tz D ((σ.set k1 (some (.ref p))).set k2 (some (.ref r))) H1) : tSeq (tPar k1 k2 (tCons ta (tCons tb tNil))) tz D σ H :=
  h H (Ex.refl H) _ fun p H1 hp e h3 => h2 H1 e _ fun r H2 hr e2 h4 => ⟨.ref p, .ref r, rfl, q p r H2 hp (fresh_back e hr) (ne_of_none h3 hr) (e.trans e2) (e2 _ _ h3) h4⟩
/-- x, y, z = e, a new list, e -/
theorem q_parXLX {k1 k2 : Nat} {ys : List V} (h : Ev ta σ H x) (h2 : EvL tb σ H ys) (q : ∀ p H1, H p = none → Ex H H1 → H1 p = some (.lst ys) → tz D ((σ.set k1 (some x)).set k2 (some (.ref p))) H1) : tSeq (tPar k1 k2 (tCons ta (tCons tb tNil))) tz D σ H := q_parXL h h2 q
end
section
variable (K : PySem.W.Frag)
def sp_l_cell_at : Sp := spLi K (fun ns k => 0 ≤ k ∧ Len ns) fun ns k => RetV (.int (cellAt ns k))
def sp_l_draw : Sp := spiii (fun _ _ m => 0 < m) fun c k m => RetV (.int (draw c k m))
def sp_l_value : Sp := spiii (fun c k m => Builtin.Int.intBits c ≤ 1048576 ∧ (0 ≤ k ∧ k ≤ 1000) ∧ 0 < m) fun c k m => RetV (.int (value c k m))
def sp_l_heap : Sp := spLi K (fun ns b => (Bits ns ∧ Len ns) ∧ (0 ≤ b ∧ b ≤ 100)) fun ns b => RI (heapM ns b)
def sp_l_small : Sp := spLi K (fun ns b => (Bits ns ∧ Len ns) ∧ (0 ≤ b ∧ b ≤ 100)) fun ns b => RI (smallM ns b)
def sp_l_is_heap : Sp := spL K Len fun _ => RetV (.bl true)
/-- (list, list) -/
def sp_l_lengths : Sp := fun vs H Q _ => ∃ (a b : Addr) (ns hs : List Int), vs = [.ref a, .ref b] ∧ SqL K H a (ns.map V.int) ∧ SqL K H b (hs.map V.int) ∧ ((Bits ns ∧ Len ns) ∧ Made hs) ∧ RetL ((lengthsM ns hs).map V.int) H Q
/-- the pair of a core and a number: new -/
def sp_l_core : Sp := fun vs H Q _ => ∃ (a : Addr) (ns : List Int) (L : Int), vs = [.ref a, .int L] ∧ SqL K H a (ns.map V.int) ∧ (Len ns ∧ 0 < L ∧ L.natAbs.log2 < 9000) ∧
  ∀ p c H2, H p = none → H c = none → Ex H H2 → H2 c = some (.lst ((coreOf ns L).map V.int)) → H2 p = some (.tup [.ref c, .int (rimsIn ns L)]) → Q (.ref p) H2
end
end Rh
namespace Rh
open PySem PySem.Spec PyProof.Rows L2 Evl
section
variable {K : PySem.W.Frag} {σ : L2.St} {H H' : Hp} {ta tb te tx tl : TE} {t u : TT} {x y z v : V} {i j : Int} {a : Addr} {ns ms : List Int} {D : Ends} {tu tw tz : TS} {g : TG} {tg : TA}
theorem prime_atI (k : Int) : atI (primes.map V.int) (k % 16) = some (.int (prime k)) := by
  have h := rest_ok (show (0 : Int) < 16 by decide) k
  have e : k % 16 = (((k % 16).toNat : Nat) : Int) := by omega
  rw [e]
  have := atI_int (prime_at k)
  exact this
theorem most_atI (s : List Int) (b : Int) : atI (([3, 9, 70, 900000] : List Int).map V.int) (draw (cellAt s 1 + b) 7 4) = some (.int (mostM s b)) := by
  have h := draw_ok (cellAt s 1 + b) 7 (show (0 : Int) < 4 by decide)
  have e : draw (cellAt s 1 + b) 7 4 = (((draw (cellAt s 1 + b) 7 4).toNat : Nat) : Int) := by omega
  rw [e]
  exact atI_int (most_at s b).1
/-- x, y = a new list, {}, by way of a tuple -/
theorem q_asgLD {k1 k2 : Nat} {xs : List V} (h : EvL ta σ H xs) (q : ∀ p d H1 H2, H p = none → H1 d = none → Ex H H1 → H1 p = some (.lst xs) → Ex H1 H2 → H2 d = some (.dK []) → tz D ((σ.set k1 (some (.ref p))).set k2 (some (.ref d))) H2) :
    tSeq (tAsg (tTup (tCons ta (tCons tDNewK tNil))) (g2 K k1 k2)) tz D σ H :=
  h H (Ex.refl H) _ fun p H1 hp e h1 => fun d hd => ⟨Nat.le_of_ble_eq_true rfl, fun T hT => g2_go upd_same (q p d H1 _ hp hd e h1 ((Ex.new hd).trans (Ex.new hT)) (Ex.new hT _ _ upd_same))⟩
/-- enumerate over a new list -/
theorem asIterE {xs : List V} {vs : List Nat} {ys : List V} (h : EvL tl σ H xs) (hh : ∀ p H1, Ex H H1 → H1 p = some (.lst xs) → EvL (tLc (iEnum K (tCons (tC (.ref p)) tNil)) g t te vs) σ H1 ys) : EvL (tLc (iEnum K (tCons tl tNil)) g t te vs) σ H ys := fun H0 e Q q =>
  h H0 e _ fun p H1 _ e1 hp => hh p H1 (e.trans e1) hp H1 (Ex.refl H1) Q fun p2 H2 hp2 e2 h2 => q p2 H2 (fresh_back e1 hp2) (e1.trans e2) h2
end
end Rh
namespace Rh
open PySem PySem.Spec PyProof.Rows L2 Evl
section
variable {K : PySem.W.Frag} {σ : L2.St} {H H' : Hp} {ta tb tc te tx tl t1 t2 t3 : TE} {t u : TT} {x y z v : V} {i j : Int} {a : Addr} {ns ms xs : List Int} {D : Ends} {tu tw tz : TS} {g : TG} {tg : TA} {E : XK}
/-- calls upon a new list -/
theorem el_cL1 {Pre R} (h : EvL ta σ H (ns.map V.int)) (hp : Pre ns) (hR : R ns = RI xs) : EvL (tCall (spL K Pre R) [] E (tCons ta tNil)) σ H (xs.map V.int) := fun H1 e Q q =>
  h H1 e _ fun p H2 _ e2 h2 => ⟨p, ns, rfl, sq_map h2, hp, by rw [hR]; exact fun p' H3 hp' e3 h3 => q p' H3 (fresh_back e2 hp') (e2.trans e3) h3⟩
theorem ev_cL1 {Pre R} (h : EvL ta σ H (ns.map V.int)) (hp : Pre ns) (hR : R ns = RetV v) : Ev (tCall (spL K Pre R) [] E (tCons ta tNil)) σ H v := fun H1 e Q q =>
  h H1 e _ fun p H2 _ e2 h2 => ⟨p, ns, rfl, sq_map h2, hp, by rw [hR]; exact fun H3 e3 => q H3 (e2.trans e3)⟩
theorem el_cLi {Pre R} (h : EvL ta σ H (ns.map V.int)) (hb : Ev tb σ H (.int i)) (hp : Pre ns i) (hR : R ns i = RI xs) : EvL (tCall (spLi K Pre R) [] E (tCons ta (tCons tb tNil))) σ H (xs.map V.int) := fun H1 e Q q =>
  h H1 e _ fun p H2 _ e2 h2 => hb H2 (e.trans e2) _ fun H3 e3 => ⟨p, ns, i, rfl, sq_map (e3 _ _ h2), hp, by rw [hR]; exact fun p' H4 hp' e4 h4 => q p' H4 (fresh_back (e2.trans e3) hp') ((e2.trans e3).trans e4) h4⟩
theorem ev_cLi {Pre R} (h : EvL ta σ H (ns.map V.int)) (hb : Ev tb σ H (.int i)) (hp : Pre ns i) (hR : R ns i = RetV v) : Ev (tCall (spLi K Pre R) [] E (tCons ta (tCons tb tNil))) σ H v := fun H1 e Q q =>
  h H1 e _ fun p H2 _ e2 h2 => hb H2 (e.trans e2) _ fun H3 e3 => ⟨p, ns, i, rfl, sq_map (e3 _ _ h2), hp, by rw [hR]; exact fun H4 e4 => q H4 ((e2.trans e3).trans e4)⟩
/-- the pair of a core and a number -/
def EvC (te : TE) (σ : L2.St) (H : Hp) (cs : List Int) (n : Int) : Prop := ∀ H1, Ex H H1 → ∀ Q : VK, (∀ p c H2, H1 p = none → H1 c = none → Ex H1 H2 → H2 c = some (.lst (cs.map V.int)) → H2 p = some (.tup [.ref c, .int n]) → Q (.ref p) H2) → te σ H1 Q
theorem EvC.mono {cs : List Int} {n : Int} (e : Ex H H') (h : EvC te σ H cs n) : EvC te σ H' cs n := fun H1 a Q q => h H1 (e.trans a) Q q
theorem ec_core {L : Int} (h : Ev ta σ H (.ref a)) (hs : SqL K H a (ns.map V.int)) (hL : Ev tb σ H (.int L)) (hp : Len ns ∧ 0 < L ∧ L.natAbs.log2 < 9000) : EvC (tCall (sp_l_core K) [] E (tCons ta (tCons tb tNil))) σ H (coreOf ns L) (rimsIn ns L) := fun H1 e Q q =>
  h H1 e _ fun H2 e2 => hL H2 (e.trans e2) _ fun H3 e3 => ⟨a, ns, L, rfl, ex_l ((e.trans e2).trans e3) hs, hp, fun p c H4 hp hc e4 h1 h2 => q p c H4 (fresh_back (e2.trans e3) hp) (fresh_back (e2.trans e3) hc) ((e2.trans e3).trans e4) h1 h2⟩
theorem q_parLC {k1 k2 : Nat} {ys : List V} {cs : List Int} {n : Int} (h : EvL ta σ H ys) (h2 : EvC tb σ H cs n) (q : ∀ p d c H1, H p = none → Ex H H1 → H1 p = some (.lst ys) → H1 c = some (.lst (cs.map V.int)) → H1 d = some (.tup [.ref c, .int n]) → tz D ((σ.set k1 (some (.ref p))).set k2 (some (.ref d))) H1) :
    tSeq (tPar k1 k2 (tCons ta (tCons tb tNil))) tz D σ H := h H (Ex.refl H) _ fun p H1 hp e h3 => h2 H1 e _ fun d c H2 _ _ e2 h4 h5 => ⟨.ref p, .ref d, rfl, q p d c H2 hp (e.trans e2) (e2 _ _ h3) h4 h5⟩
theorem q_asgC {k : Nat} {cs : List Int} {n : Int} (h : EvC te σ H cs n) (q : ∀ d c H1, Ex H H1 → H1 c = some (.lst (cs.map V.int)) → H1 d = some (.tup [.ref c, .int n]) → tz D (σ.set k (some (.ref d))) H1) : tSeq (tAsg te (gName k)) tz D σ H :=
  h H (Ex.refl H) _ fun d c H1 _ _ e h1 h2 => q d c H1 e h1 h2
/-- for x in (three new lists) -/
theorem q_forT3 {k : Nat} {l1 l2 l3 : List Int} (h1 : EvL t1 σ H (l1.map V.int)) (h2 : EvL t2 σ H (l2.map V.int)) (h3 : EvL t3 σ H (l3.map V.int)) (Pv : Hp → L2.St → Hp → Prop) (hE : ∀ H0 σ' H', Pv H0 σ' H' → Ex H0 H') (h0 : ∀ H1, Ex H H1 → Pv H1 σ H1)
    (hs : ∀ H0 p ns σ' H', (ns = l1 ∨ ns = l2 ∨ ns = l3) → Ex H H0 → H0 p = some (.lst (ns.map V.int)) → Pv H0 σ' H' → tu { D with nx := Pv H0, ct := Pv H0, bk := tz D } (σ'.set k (some (.ref p))) H') (hd : ∀ H0 σ' H', Ex H H0 → Pv H0 σ' H' → tz D σ' H') :
    tSeq (tFor (iTup K (tTup (tCons t1 (tCons t2 (tCons t3 tNil))))) (gName k) tu) tz D σ H :=
  h1 H (Ex.refl H) _ fun p1 H1 _ e1 q1 => h2 H1 e1 _ fun p2 H2 _ e2 q2 => h3 H2 (e1.trans e2) _ fun p3 H3 _ e3 q3 => ⟨Nat.le_of_ble_eq_true rfl, fun T hT => ⟨T, rfl, ⟨_, .inl (.inl upd_same)⟩,
    for_tup (xs := [.ref p1, .ref p2, .ref p3]) (fun _ => Pv (upd H3 T (.tup [.ref p1, .ref p2, .ref p3]))) (h0 _ (((e1.trans e2).trans e3).trans (Ex.new hT))) (fun i σ' H' _ q => .inl (.inl (hE _ _ _ q _ _ upd_same))) (fun i x σ' H' hi q => by
      have hm := List.mem_of_getElem? hi
      have e0 := ((e1.trans e2).trans e3).trans (Ex.new (o := .tup [.ref p1, .ref p2, .ref p3]) hT)
      rcases List.mem_cons.mp hm with rfl | hm
      · exact hs _ p1 l1 σ' H' (.inl rfl) e0 (Ex.new hT _ _ (e3 _ _ (e2 _ _ q1))) q
      · rcases List.mem_cons.mp hm with rfl | hm
        · exact hs _ p2 l2 σ' H' (.inr (.inl rfl)) e0 (Ex.new hT _ _ (e3 _ _ q2)) q
        · rcases List.mem_cons.mp hm with rfl | hm
          · exact hs _ p3 l3 σ' H' (.inr (.inr rfl)) e0 (Ex.new hT _ _ q3) q
          · cases hm) (fun σ' H' q => hd _ σ' H' (((e1.trans e2).trans e3).trans (Ex.new hT)) q)⟩⟩
end
section
variable (K : PySem.W.Frag)
def sp_l_taken_right : Sp := fun vs H Q _ => ∃ (a b d c : Addr) (ns hs : List Int) (L : Int), vs = [.ref a, .ref b, .int L, .ref d] ∧ SqL K H a (ns.map V.int) ∧ SqL K H b (hs.map V.int) ∧ SqT K H d [.ref c, .int (rimsIn hs L)] ∧ SqL K H c ((coreOf hs L).map V.int) ∧
  (Len ns ∧ (IsHeap hs ∧ Len hs) ∧ Lgth L) ∧ RetV (.bl true) H Q
def sp_l_right1 : Sp := fun vs H Q _ => ∃ (a b : Addr) (ns hs : List Int) (L : Int), vs = [.ref a, .ref b, .int L] ∧ SqL K H a (ns.map V.int) ∧ SqL K H b (hs.map V.int) ∧ (Len ns ∧ Made hs ∧ Lgth L) ∧ RetV (.bl true) H Q
def sp_law : Sp := fun vs H Q _ => ∃ (a : Addr) (ns : List Int), vs = [.ref a] ∧ SqL K H a (ns.map V.int) ∧ (Bits ns ∧ ns.length ≤ 63) ∧ ∀ H', Q (.bl true) H'
end
end Rh
namespace Rh
open PySem PySem.Spec PyProof.Rows L2 Evl
section
variable {K : PySem.W.Frag} {σ : L2.St} {H H' : Hp} {ta tb tc te tx tl t1 t2 t3 : TE} {t u : TT} {x y z v : V} {i j : Int} {a b : Addr} {ns hs ms xs : List Int} {D : Ends} {tu tw tz : TS} {g : TG} {tg : TA} {E : XK}
theorem s_retC {cs : List Int} {n : Int} (h : EvL ta σ H (cs.map V.int)) (hb : Ev tb σ H (.int n)) (q : ∀ c p H3, H c = none → H p = none → Ex H H3 → H3 c = some (.lst (cs.map V.int)) → H3 p = some (.tup [.ref c, .int n]) → D.rt (.ref p) H3) : tRet (tTup (tCons ta (tCons tb tNil))) D σ H :=
  h H (Ex.refl H) _ fun c H1 hc e1 h1 => hb H1 e1 _ fun H2 e2 => ⟨Nat.le_of_ble_eq_true rfl, fun p hp => q c p _ hc (fresh_back (e1.trans e2) hp) ((e1.trans e2).trans (Ex.new hp)) (Ex.new hp _ _ (e2 _ _ h1)) upd_same⟩
theorem go_taken {d c : Addr} {L : Int} (h1 : SqL K H a (ns.map V.int)) (h2 : SqL K H b (hs.map V.int)) (h3 : SqT K H d [.ref c, .int (rimsIn hs L)]) (h4 : SqL K H c ((coreOf hs L).map V.int)) (hp : Len ns ∧ (IsHeap hs ∧ Len hs) ∧ Lgth L) :
    SpV (sp_l_taken_right K) [.ref a, .ref b, .int L, .ref d] H (.bl true) := fun _ e Q q E => ⟨a, b, d, c, ns, hs, L, rfl, ex_l e h1, ex_l e h2, ex_t e h3, ex_l e h4, hp, q⟩
theorem go_right1 {L : Int} (h1 : SqL K H a (ns.map V.int)) (h2 : SqL K H b (hs.map V.int)) (hp : Len ns ∧ Made hs ∧ Lgth L) : SpV (sp_l_right1 K) [.ref a, .ref b, .int L] H (.bl true) := fun _ e Q q E => ⟨a, b, ns, hs, L, rfl, ex_l e h1, ex_l e h2, hp, q⟩
theorem go_lengths (h1 : SqL K H a (ns.map V.int)) (h2 : SqL K H b (hs.map V.int)) (hp : (Bits ns ∧ Len ns) ∧ Made hs) : SpL (sp_l_lengths K) [.ref a, .ref b] H ((lengthsM ns hs).map V.int) := fun _ e Q q E => ⟨a, b, ns, hs, rfl, ex_l e h1, ex_l e h2, hp, q⟩
theorem Made.len2 {h : List Int} (m : Made h) : Len h := by have := m.len; show _ ≤ 30000; omega
theorem all_true {α : Type} (l : List α) : (l.map fun _ => true).all id = true := by
  rw [List.all_map, List.all_eq_true]
  intro x _
  rfl
end
end Rh
namespace Rh
open PySem PySem.Spec PyProof.Rows L2 Evl
/-- where a def stands behind the top -/
def Facts (K : PySem.W.Frag) (x : Str) (st : Stmt) : Prop := ∃ (f : Addr) (oc : Value) (od : Option Addr) (kV doc pm : Value) (an : Option Addr) (cdv ct : Value) (osl : Array (Option Value)),
  PySem.W.nsIn K mainGlobals x = some (some (.ref f)) ∧ K.lookup f = some ⟨oc, od, .func (PySem.W.fnOf x x (defArgs st) (defBody st) (defScope st) .none kV doc pm an cdv ct), osl⟩ ∧ PySem.W.codeIn K cdv x = true ∧ PySem.W.keepIn K (.ref f) = true
theorem facts_mk {K : PySem.W.Frag} {x : Str} {st : Stmt} {f : Addr} {oc : Value} {od : Option Addr} {kV doc pm : Value} {an : Option Addr} {cdv ct : Value} {osl : Array (Option Value)} (a : PySem.W.nsIn K mainGlobals x = some (some (.ref f)))
    (l : K.lookup f = some ⟨oc, od, .func (PySem.W.fnOf x x (defArgs st) (defBody st) (defScope st) .none kV doc pm an cdv ct), osl⟩) (c : PySem.W.codeIn K cdv x = true) (k : PySem.W.keepIn K (.ref f) = true) : Facts K x st := ⟨f, oc, od, kV, doc, pm, an, cdv, ct, osl, a, l, c, k⟩
end Rh

namespace Rh

def shN : Nat → List Int → List Int
  | 0, M => M
  | n + 1, M => sh (shN n M)
theorem shN_beads {M : List Int} (B : Beads M) : ∀ n, Beads (shN n M)
  | 0 => B
  | n + 1 => (shN_beads B n).sh
theorem mem_shN {M : List Int} : ∀ (n : Nat) (x : Int), x ∈ shN n M ↔ (0 ≤ x ∧ x < n) ∨ x - n ∈ M
  | 0, x => by
    have e : x - ((0 : Nat) : Int) = x := by omega
    rw [e]
    constructor
    · exact fun h => .inr h
    · rintro (h | h)
      · omega
      · exact h
  | n + 1, x => by
    show x ∈ sh (shN n M) ↔ _
    rw [mem_sh, mem_shN n]
    have e : x - 1 - (n : Int) = x - ((n + 1 : Nat) : Int) := by omega
    rw [e]
    constructor
    · rintro (h | h | h)
      · exact .inl (by omega)
      · exact .inl (by omega)
      · exact .inr h
    · rintro (h | h)
      · by_cases h0 : x = 0
        · exact .inl h0
        · exact .inr (.inl (by omega))
      · exact .inr (.inr h)
theorem sh_len (M : List Int) : (sh M).length = M.length + 1 := by simp [sh]
theorem shN_len (M : List Int) : ∀ n, (shN n M).length = M.length + n
  | 0 => rfl
  | n + 1 => by
    show (sh (shN n M)).length = _
    rw [sh_len, shN_len M n]
    rfl
theorem heapOf_shN {M : List Int} (B : Beads M) : ∀ n, heapOf (shN n M) = heapOf M
  | 0 => rfl
  | n + 1 => by
    show heapOf (sh (shN n M)) = _
    rw [heapOf_sh (shN_beads B n), heapOf_shN B n]
theorem pad_shN (h : List Int) (d : Nat) : ∀ n, pad h (d + n) = shN n (pad h d)
  | 0 => rfl
  | n + 1 => by
    show pad h (d + n + 1) = sh (shN n (pad h d))
    rw [pad_succ, pad_shN h d n]

theorem cl_perm {M N : List Int} (p : M.Perm N) (L r : Int) : (cl M L r).Perm (cl N L r) := (p.filter _).map _
theorem lq {L q r a : Int} (hr : 0 ≤ r ∧ r < L) : (0 ≤ L * q + r ↔ 0 ≤ q) ∧ (L * q + r < L * a ↔ q < a) := by
  have hL : 0 ≤ L := by omega
  have key : ∀ b c : Int, b < c → L * b + L ≤ L * c := fun b c h => by
    have := Int.mul_le_mul_of_nonneg_left (show b + 1 ≤ c by omega) hL
    rw [Int.mul_add, Int.mul_one] at this
    exact this
  constructor
  · constructor
    · intro h
      by_cases hq : 0 ≤ q
      · exact hq
      · have := key q 0 (by omega)
        rw [Int.mul_zero] at this
        omega
    · intro h
      have := Int.mul_nonneg hL h
      omega
  · constructor
    · intro h
      by_cases hq : q < a
      · exact hq
      · have := Int.mul_le_mul_of_nonneg_left (show a ≤ q by omega) hL
        omega
    · intro h
      have := key q a h
      omega
theorem cl_shN {M : List Int} (B : Beads M) {L r : Int} (hL : 0 < L) (hr : 0 ≤ r ∧ r < L) (a : Nat) : (cl (shN (L.toNat * a) M) L r).Perm (shN a (cl M L r)) := by
  refine perm_of_mem (cl_beads (shN_beads B _) hL r).nd (shN_beads (cl_beads B hL r) a).nd fun q => ?_
  have e : ((L.toNat * a : Nat) : Int) = L * (a : Int) := by
    rw [Int.natCast_mul]
    congr 1
    omega
  rw [mem_cl hr, mem_shN, mem_shN, mem_cl hr, e]
  obtain ⟨h1, h2⟩ := lq (q := q) (a := (a : Int)) hr
  rw [h1, h2]
  have e2 : L * q + r - L * (a : Int) = L * (q - a) + r := by
    rw [Int.mul_sub]
    omega
  rw [e2]
theorem perm_of_cl {X Y : List Int} {L : Int} (hL : 0 < L) (A : Beads X) (B : Beads Y) (h : ∀ r, 0 ≤ r → r < L → (cl X L r).Perm (cl Y L r)) : X.Perm Y := by
  refine perm_of_mem A.nd B.nd fun x => ?_
  have hr := rest_ok hL x
  have e := qr_of L x
  have := (h (x % L) hr.1 hr.2).mem_iff (a := x / L)
  rw [mem_cl hr, mem_cl hr, ← e] at this
  exact this
theorem core_cl {C M : List Int} {L r : Int} (hL : 0 < L) (hr : 0 ≤ r ∧ r < L) (c : IsCore C M L) : (cl C L r).Perm (upto (cnt M L r)) := by
  have nd : (upto (cnt M L r)).Nodup := by
    unfold upto
    rw [List.nodup_iff_pairwise_ne, List.pairwise_map]
    exact List.Pairwise.imp (fun h e => h (Int.ofNat.inj e)) (List.nodup_iff_pairwise_ne.mp List.nodup_range)
  refine perm_of_mem (cl_beads c.beads hL r).nd nd fun q => ?_
  obtain ⟨a, b⟩ := qr hr.1 hr.2 (rfl : L * q + r = L * q + r)
  rw [mem_cl hr, c.mem, mem_upto]
  unfold Low
  rw [a, b, (lq hr (a := 0)).1]
theorem core_cnt {C M : List Int} {L r : Int} (hL : 0 < L) (hr : 0 ≤ r ∧ r < L) (c : IsCore C M L) : cnt C L r = cnt M L r := by
  rw [← cl_len C, (core_cl hL hr c).length_eq, upto_len]

def padN (h : List Int) (L : Int) : Nat := (-(h.length : Int) % L).toNat
def padM (h : List Int) (L : Int) : List Int := pad h (padN h L)
def partOf (h : List Int) (L r : Int) : List Int := heapOf (cl (padM h L) L r)
def partsOf (h : List Int) (L : Int) : List (List Int) := (List.range L.toNat).map fun (r : Nat) => partOf h L r
theorem padN_eq {h : List Int} {L : Int} (hL : 0 < L) : ((padN h L : Nat) : Int) = -(h.length : Int) % L := by
  unfold padN
  have := rest_ok hL (-(h.length : Int))
  omega
theorem padN_lt {h : List Int} {L : Int} (hL : 0 < L) : ((padN h L : Nat) : Int) < L := by
  rw [padN_eq hL]
  exact (rest_ok hL _).2
theorem padM_len {h : List Int} {L : Int} (hL : 0 < L) : (((padM h L).length : Nat) : Int) % L = 0 := by
  unfold padM
  rw [pad_len]
  have e := qr_of L (-(h.length : Int))
  rw [← padN_eq hL] at e
  have e2 : ((h.length + padN h L : Nat) : Int) = L * -(-(h.length : Int) / L) := by
    rw [Int.mul_neg]
    omega
  rw [e2]
  exact Int.mul_emod_right _ _
theorem padM_beads {h : List Int} (H : IsHeap h) (L : Int) : Beads (padM h L) := pad_beads H _
theorem padM_heap {h : List Int} (H : IsHeap h) (L : Int) : heapOf (padM h L) = h := heapOf_pad H _
theorem padM_size (h : List Int) {L : Int} : (padM h L).length = h.length + padN h L := pad_len _ _
/-- the heap of a class, of marks of any kind whose number is one of whole lengths -/
theorem part_of_beads {X : List Int} (B : Beads X) {L r : Int} (hL : 0 < L) (hr : 0 ≤ r ∧ r < L) (hl : ((X.length : Nat) : Int) % L = 0) : heapOf (cl X L r) = partOf (heapOf X) L r := by
  obtain ⟨H, hle, p⟩ := beads_pad B
  generalize heapOf X = h at H hle p
  obtain ⟨m, hm⟩ : ∃ m : Nat, X.length - h.length = padN h L + L.toNat * m := by
    have e := qr_of L ((X.length : Nat) : Int)
    rw [hl] at e
    generalize hk : X.length - h.length = k
    have e1 : -(h.length : Int) = (k : Int) + L * -(((X.length : Nat) : Int) / L) := by
      rw [Int.mul_neg]
      omega
    have e2 : -(h.length : Int) % L = (k : Int) % L := by rw [e1, Int.add_mul_emod_self_left]
    have e3 := padN_eq (h := h) hL
    rw [e2] at e3
    have e4 := qr_of L (k : Int)
    have e5 := quo_nn hL (show (0 : Int) ≤ (k : Int) by omega)
    refine ⟨((k : Int) / L).toNat, ?_⟩
    have e6 : ((L.toNat * ((k : Int) / L).toNat : Nat) : Int) = L * ((k : Int) / L) := by
      rw [Int.natCast_mul]
      congr 1 <;> omega
    omega
  rw [hm, pad_shN] at p
  have q := (cl_perm p L r).trans (cl_shN (pad_beads H _) hL hr m)
  rw [heapOf_congr q, heapOf_shN (cl_beads (pad_beads H _) hL r)]
  rfl
/-- the core and the parts tell the heap -/
theorem parts_inj {h k : List Int} (H : IsHeap h) (G : IsHeap k) {L : Int} (hL : 0 < L) (hc : coreOf h L = coreOf k L) (hp : ∀ r, 0 ≤ r → r < L → partOf h L r = partOf k L r) : h = k := by
  obtain ⟨a, ha⟩ : ∃ a : Nat, (padM h L).length = L.toNat * a := by
    have e := qr_of L (((padM h L).length : Nat) : Int)
    rw [padM_len hL] at e
    have e5 := quo_nn hL (show (0 : Int) ≤ (((padM h L).length : Nat) : Int) by omega)
    refine ⟨((((padM h L).length : Nat) : Int) / L).toNat, ?_⟩
    have e6 : ((L.toNat * ((((padM h L).length : Nat) : Int) / L).toNat : Nat) : Int) = L * ((((padM h L).length : Nat) : Int) / L) := by
      rw [Int.natCast_mul]
      congr 1 <;> omega
    omega
  obtain ⟨b, hb⟩ : ∃ b : Nat, (padM k L).length = L.toNat * b := by
    have e := qr_of L (((padM k L).length : Nat) : Int)
    rw [padM_len hL] at e
    have e5 := quo_nn hL (show (0 : Int) ≤ (((padM k L).length : Nat) : Int) by omega)
    refine ⟨((((padM k L).length : Nat) : Int) / L).toNat, ?_⟩
    have e6 : ((L.toNat * ((((padM k L).length : Nat) : Int) / L).toNat : Nat) : Int) = L * ((((padM k L).length : Nat) : Int) / L) := by
      rw [Int.natCast_mul]
      congr 1 <;> omega
    omega
  have Bh := padM_beads H L
  have Bk := padM_beads G L
  have BX := shN_beads Bh (L.toNat * b)
  have BY := shN_beads Bk (L.toNat * a)
  have hX : heapOf (shN (L.toNat * b) (padM h L)) = h := by rw [heapOf_shN Bh, padM_heap H]
  have hY : heapOf (shN (L.toNat * a) (padM k L)) = k := by rw [heapOf_shN Bk, padM_heap G]
  have hXY : (shN (L.toNat * b) (padM h L)).length = (shN (L.toNat * a) (padM k L)).length := by
    rw [shN_len, shN_len]
    omega
  have cX := lowsOf_core hL (shN (L.toNat * b) (padM h L))
  have cY := lowsOf_core hL (shN (L.toNat * a) (padM k L))
  have pc : (lowsOf (shN (L.toNat * b) (padM h L)) L).Perm (lowsOf (shN (L.toNat * a) (padM k L)) L) := by
    refine heapOf_inj cX.beads cY.beads (by rw [lowsOf_len, lowsOf_len, hXY]) ?_
    rw [← core_of_beads hL BX cX, ← core_of_beads hL BY cY, hX, hY, hc]
  have pp : (shN (L.toNat * b) (padM h L)).Perm (shN (L.toNat * a) (padM k L)) := by
    refine perm_of_cl hL BX BY fun r h0 h1 => ?_
    have hr : 0 ≤ r ∧ r < L := ⟨h0, h1⟩
    refine heapOf_inj (cl_beads BX hL r) (cl_beads BY hL r) ?_ ?_
    · rw [cl_len, cl_len, ← core_cnt hL hr cX, ← core_cnt hL hr cY, cnt_perm pc]
    · rw [heapOf_congr (cl_shN Bh hL hr b), heapOf_congr (cl_shN Bk hL hr a), heapOf_shN (cl_beads Bh hL r), heapOf_shN (cl_beads Bk hL r)]
      exact hp r h0 h1
  rw [← hX, ← hY]
  exact heapOf_congr pp

theorem sum_upd (f g : Nat → Int) (k : Nat) (d : Int) (hk : g k = f k + d) (h : ∀ i, i ≠ k → g i = f i) : ∀ n, ((List.range n).map g).sum = ((List.range n).map f).sum + if k < n then d else 0
  | 0 => by simp
  | n + 1 => by
    rw [List.range_succ, List.map_append, List.map_append, List.sum_append, List.sum_append, sum_upd f g k d hk h n]
    simp only [List.map_cons, List.map_nil, List.sum_cons, List.sum_nil]
    by_cases e : n = k
    · subst e
      rw [if_neg (by omega), if_pos (by omega), hk]
      omega
    · rw [h n e]
      by_cases q : k < n
      · rw [if_pos q, if_pos (by omega)]
        omega
      · rw [if_neg q, if_neg (by omega)]
        omega
theorem cl_append (M N : List Int) (L r : Int) : cl (M ++ N) L r = cl M L r ++ cl N L r := by
  unfold cl
  rw [List.filter_append, List.map_append]
theorem many_class {L : Int} (hL : 0 < L) : ∀ (n : Nat) (M : List Int), M.length = n → manyOf M L = ((List.range L.toNat).map fun (r : Nat) => (cl M L r).sum - tri (cnt M L r)).sum := by
  intro n
  induction n with
  | zero =>
    intro M h
    cases List.length_eq_zero_iff.mp h
    have e : ((List.range L.toNat).map fun (r : Nat) => (cl [] L (r : Int)).sum - tri (cnt [] L (r : Int))) = (List.range L.toNat).map fun _ => (0 : Int) := by
      refine List.map_congr_left fun r _ => ?_
      rfl
    rw [e]
    generalize L.toNat = m
    show (0 : Int) = _
    induction m with
    | zero => rfl
    | succ m ih => rw [List.range_succ, List.map_append, List.sum_append, ← ih]; rfl
  | succ n ih =>
    intro M h
    have hne : M ≠ [] := by
      intro e
      rw [e] at h
      cases h
    rw [← List.dropLast_concat_getLast hne]
    have hl : M.dropLast.length = n := by rw [List.length_dropLast]; omega
    generalize M.dropLast = N at hl
    generalize M.getLast hne = x
    rw [manyOf_snoc, ih N hl]
    have hr := rest_ok hL x
    have hk : (((x % L).toNat : Nat) : Int) = x % L := by omega
    rw [sum_upd (fun (r : Nat) => (cl N L r).sum - tri (cnt N L r)) (fun (r : Nat) => (cl (N ++ [x]) L r).sum - tri (cnt (N ++ [x]) L r)) (x % L).toNat (x / L - (cnt N L (x % L) : Int)) ?_ ?_, if_pos (by omega)]
    · omega
    · show (cl (N ++ [x]) L (((x % L).toNat : Nat) : Int)).sum - tri (cnt (N ++ [x]) L (((x % L).toNat : Nat) : Int)) = (cl N L (((x % L).toNat : Nat) : Int)).sum - tri (cnt N L (((x % L).toNat : Nat) : Int)) + _
      rw [hk, cl_append, cnt_append, List.sum_append]
      have e1 : cl [x] L (x % L) = [x / L] := by simp [cl]
      have e2 : cnt [x] L (x % L) = 1 := by simp [cnt]
      rw [e1, e2]
      show _ - (tri (cnt N L (x % L)) + (cnt N L (x % L) : Int)) = _
      simp only [List.sum_cons, List.sum_nil]
      omega
    · intro i hi
      have hi2 : ¬ x % L = (i : Int) := by omega
      show (cl (N ++ [x]) L (i : Int)).sum - tri (cnt (N ++ [x]) L (i : Int)) = _
      rw [cl_append, cnt_append]
      have e1 : cl [x] L (i : Int) = [] := by simp [cl, hi2]
      have e2 : cnt [x] L (i : Int) = 0 := by simp [cnt, hi2]
      rw [e1, e2, List.append_nil]
      rfl
theorem many_parts {L : Int} (hL : 0 < L) {M : List Int} (B : Beads M) : manyOf M L = ((List.range L.toNat).map fun (r : Nat) => (heapOf (cl M L r)).sum).sum := by
  rw [many_class hL _ M rfl]
  congr 1
  refine List.map_congr_left fun r _ => ?_
  rw [heapOf_sum (cl_beads B hL r), cl_len]
theorem rims_parts {L : Int} (hL : 0 < L) {h : List Int} (H : IsHeap h) : rimsIn h L = ((partsOf h L).map List.sum).sum := by
  have e := rims_of_beads hL (padM_beads H L)
  rw [padM_heap H] at e
  rw [e, many_parts hL (padM_beads H L)]
  unfold partsOf partOf
  rw [List.map_map]
  rfl

def deepOf (ps : List (List Int)) : Nat := (ps.map List.length).foldr max 0
theorem deep_le {ps : List (List Int)} {p : List Int} (h : p ∈ ps) : p.length ≤ deepOf ps := by
  unfold deepOf
  induction ps with
  | nil => cases h
  | cons q r ih =>
    rw [List.map_cons, List.foldr_cons]
    rcases List.mem_cons.mp h with rfl | h
    · exact Nat.le_max_left _ _
    · exact Nat.le_trans (ih h) (Nat.le_max_right _ _)
theorem deep_bound {ps : List (List Int)} {b : Nat} (h : ∀ p ∈ ps, p.length ≤ b) : deepOf ps ≤ b := by
  unfold deepOf
  induction ps with
  | nil => exact Nat.zero_le _
  | cons q r ih =>
    rw [List.map_cons, List.foldr_cons]
    exact Nat.max_le.mpr ⟨h q List.mem_cons_self, ih fun p hp => h p (List.mem_cons_of_mem _ hp)⟩
theorem deep_mem {ps : List (List Int)} (h : ps ≠ []) : ∃ p ∈ ps, p.length = deepOf ps := by
  unfold deepOf
  induction ps with
  | nil => exact absurd rfl h
  | cons q r ih =>
    rw [List.map_cons, List.foldr_cons]
    by_cases hr : r = []
    · subst hr
      exact ⟨q, List.mem_cons_self, by simp⟩
    · obtain ⟨p, hp, e⟩ := ih hr
      by_cases c : (r.map List.length).foldr max 0 ≤ q.length
      · exact ⟨q, List.mem_cons_self, (Nat.max_eq_left c).symm⟩
      · exact ⟨p, List.mem_cons_of_mem _ hp, by rw [e]; exact (Nat.max_eq_right (by omega)).symm⟩
/-- the marks of each part, in rows as many as the core has of the rest -/
def rowJ (N : List Int) (L : Int) (r : Nat) (p : List Int) : List Int := p ++ zeros (cnt N L r - p.length)
def marksJ (N : List Int) (L : Int) (r : Nat) (p : List Int) : List Int := (marksOf (rowJ N L r p)).map fun m => (r : Int) + L * m
def joinF (N : List Int) (L : Int) : Nat → List (List Int) → List Int
  | _, [] => []
  | r, p :: ps => marksJ N L r p ++ joinF N L (r + 1) ps
theorem joinF_snoc (N : List Int) (L : Int) (p : List Int) : ∀ (ps : List (List Int)) (r : Nat), joinF N L r (ps ++ [p]) = joinF N L r ps ++ marksJ N L (r + ps.length) p
  | [], r => by simp [joinF]
  | q :: ps, r => by
    show marksJ N L r q ++ joinF N L (r + 1) (ps ++ [p]) = marksJ N L r q ++ joinF N L (r + 1) ps ++ _
    rw [joinF_snoc N L p ps (r + 1), List.append_assoc, List.length_cons]
    congr 3
    omega
def toldJ (left : List Int) (ps : List (List Int)) (L : Int) : List Int := pad left (padN left L + L.toNat * deepOf ps)
def joinM (left : List Int) (ps : List (List Int)) (L : Int) : List Int := heapOf (joinF (toldJ left ps L) L 0 ps)
theorem cl_marksJ {N p : List Int} {L : Int} {r : Nat} (h : (r : Int) < L) (s : Nat) : cl (marksJ N L r p) L s = if s = r then marksOf (rowJ N L r p) else [] := by
  unfold marksJ
  generalize marksOf (rowJ N L r p) = R
  unfold cl
  induction R with
  | nil => simp
  | cons m R ih =>
    obtain ⟨a, b⟩ := qr (show (0 : Int) ≤ (r : Int) by omega) h (show (r : Int) + L * m = L * m + r by omega)
    rw [List.map_cons, List.filter_cons]
    by_cases e : s = r
    · subst e
      rw [if_pos (by rw [b]; simp), List.map_cons, ih, if_pos rfl, if_pos rfl, a]
    · rw [if_neg (by rw [b]; simp; omega), ih, if_neg e, if_neg e]
theorem cl_joinF {N : List Int} {L : Int} : ∀ (ps : List (List Int)) (r : Nat), ((r + ps.length : Nat) : Int) ≤ L → ∀ s : Nat, cl (joinF N L r ps) L s = if r ≤ s then ((ps[s - r]?).map fun p => marksOf (rowJ N L s p)).getD [] else []
  | [], r, _, s => by simp [joinF, cl]
  | p :: ps, r, h, s => by
    rw [List.length_cons] at h
    show cl (marksJ N L r p ++ joinF N L (r + 1) ps) L s = _
    rw [cl_append, cl_marksJ (by omega), cl_joinF ps (r + 1) (by omega)]
    by_cases e : s = r
    · subst e
      rw [if_pos rfl, if_neg (by omega), if_pos (Nat.le_refl _), Nat.sub_self, List.append_nil]
      rfl
    · rw [if_neg e, List.nil_append]
      by_cases q : r ≤ s
      · rw [if_pos (by omega), if_pos q]
        have e2 : s - r = (s - (r + 1)) + 1 := by omega
        rw [e2, List.getElem?_cons_succ]
      · rw [if_neg (by omega), if_neg q]
theorem count_cl (L x : Int) : ∀ M : List Int, M.count x ≤ (cl M L (x % L)).count (x / L)
  | [] => by simp [cl]
  | m :: M => by
    have ih := count_cl L x M
    have e : cl (m :: M) L (x % L) = cl [m] L (x % L) ++ cl M L (x % L) := cl_append [m] M L _
    rw [e, List.count_append, List.count_cons]
    by_cases q : m = x
    · subst q
      have e1 : cl [m] L (m % L) = [m / L] := by simp [cl]
      rw [e1]
      simp
      omega
    · have : (m == x) = false := by simpa using q
      rw [this]
      simp
      omega
theorem beads_of_cl {M : List Int} {L : Int} (hL : 0 < L) (h : ∀ r, 0 ≤ r → r < L → Beads (cl M L r)) : Beads M := by
  refine ⟨List.nodup_iff_count.mpr fun x => ?_, fun x hx => ?_⟩
  · have hr := rest_ok hL x
    exact Nat.le_trans (count_cl L x M) (List.nodup_iff_count.mp (h _ hr.1 hr.2).nd _)
  · have hr := rest_ok hL x
    have hq : x / L ∈ cl M L (x % L) := by
      rw [mem_cl hr, ← qr_of]
      exact hx
    have := (h _ hr.1 hr.2).nn _ hq
    have e := qr_of L x
    have := Int.mul_nonneg (Int.le_of_lt hL) this
    omega
structure Joins (k left : List Int) (ps : List (List Int)) (L : Int) : Prop where
  heap : IsHeap k
  core : coreOf k L = left
  parts : partsOf k L = ps
  len : k.length ≤ left.length + padN left L + L.toNat * deepOf ps
theorem join_ok {left : List Int} {ps : List (List Int)} {L : Int} (hL : 0 < L) (H : IsHeap left) (hc : rimsH left L = []) (hl : ((ps.length : Nat) : Int) = L) (hp : ∀ p ∈ ps, IsHeap p) :
    Joins (joinM left ps L) left ps L ∧ (joinF (toldJ left ps L) L 0 ps).length = left.length + padN left L + L.toNat * deepOf ps := by
  have BN : Beads (toldJ left ps L) := pad_beads H _
  have hN : heapOf (toldJ left ps L) = left := heapOf_pad H _
  have hNl : (toldJ left ps L).length = left.length + padN left L + L.toNat * deepOf ps := by
    unfold toldJ
    rw [pad_len]
    omega
  have hdeep : ∀ r, 0 ≤ r → r < L → deepOf ps ≤ cnt (toldJ left ps L) L r := fun r h0 h1 => by
    rw [← cl_len]
    unfold toldJ
    rw [pad_shN, (cl_shN (pad_beads H _) hL ⟨h0, h1⟩ _).length_eq, shN_len]
    omega
  have hclo : Closed (toldJ left ps L) L := by
    rw [← many_zero hL BN, ← rims_of_beads hL BN, hN]
    exact (rims_none H hL).mp hc
  have cN := hclo.core hL BN
  unfold joinM
  generalize toldJ left ps L = N at BN hN hNl hdeep hclo cN
  have hcl : ∀ (r : Nat) (h : (r : Int) < L), ∃ p, ps[r]? = some p ∧ p ∈ ps ∧ cl (joinF N L 0 ps) L r = pad p (cnt N L r - p.length) := fun r h => by
    have h2 : r < ps.length := by omega
    refine ⟨ps[r], List.getElem?_eq_getElem h2, List.getElem_mem h2, ?_⟩
    rw [cl_joinF ps 0 (by omega), if_pos (Nat.zero_le _), Nat.sub_zero, List.getElem?_eq_getElem h2]
    rfl
  have hB : ∀ r, 0 ≤ r → r < L → Beads (cl (joinF N L 0 ps) L r) := fun r h0 h1 => by
    obtain ⟨p, _, hm, e⟩ := hcl r.toNat (by omega)
    have er : ((r.toNat : Nat) : Int) = r := by omega
    rw [er] at e
    rw [e]
    exact pad_beads (hp p hm) _
  have BF := beads_of_cl hL hB
  have hcnt : ∀ r, 0 ≤ r → r < L → cnt (joinF N L 0 ps) L r = cnt N L r := fun r h0 h1 => by
    obtain ⟨p, _, hm, e⟩ := hcl r.toNat (by omega)
    have er : ((r.toNat : Nat) : Int) = r := by omega
    rw [er] at e
    have h3 := deep_le hm
    have h4 := hdeep r h0 h1
    rw [← cl_len, e, pad_len]
    omega
  have cF : IsCore N (joinF N L 0 ps) L := ⟨BN.nd, fun x => by
    have hr := rest_ok hL x
    rw [cN.mem]
    unfold Low
    rw [hcnt _ hr.1 hr.2]⟩
  have hFl : (joinF N L 0 ps).length = N.length := by
    rw [← lowsOf_len (joinF N L 0 ps) L]
    exact ((lowsOf_core hL _).perm cF (List.Perm.refl _)).length_eq
  have hmod : (((joinF N L 0 ps).length : Nat) : Int) % L = 0 := by
    rw [hFl, hNl]
    have e := padM_len (h := left) hL
    rw [padM_size] at e
    have e2 : ((left.length + padN left L + L.toNat * deepOf ps : Nat) : Int) = ((left.length + padN left L : Nat) : Int) + L * (deepOf ps : Int) := by
      rw [Int.natCast_add, Int.natCast_mul]
      congr 2
      omega
    rw [e2, Int.add_mul_emod_self_left]
    exact e
  have hk := beads_pad BF
  refine ⟨⟨hk.1, ?_, ?_, ?_⟩, ?_⟩
  · rw [core_of_beads hL BF cF, hN]
  · unfold partsOf
    refine List.ext_getElem? fun i => ?_
    rw [List.getElem?_map]
    by_cases hi : i < L.toNat
    · obtain ⟨p, h1, hm, e⟩ := hcl i (by omega)
      rw [List.getElem?_range hi, h1]
      show some (partOf (heapOf (joinF N L 0 ps)) L (i : Int)) = some p
      rw [← part_of_beads BF hL ⟨by omega, by omega⟩ hmod, e, heapOf_pad (hp p hm)]
    · rw [List.getElem?_eq_none (by rw [List.length_range]; omega), List.getElem?_eq_none (by omega)]
      rfl
  · rw [← hNl, ← hFl]
    exact hk.2.1
  · rw [hFl, hNl]
theorem partsOf_len {h : List Int} {L : Int} (hL : 0 < L) : (((partsOf h L).length : Nat) : Int) = L := by
  unfold partsOf
  rw [List.length_map, List.length_range]
  omega
theorem partOf_heap {h : List Int} (H : IsHeap h) {L : Int} (hL : 0 < L) (r : Int) : IsHeap (partOf h L r) := (beads_pad (cl_beads (padM_beads H L) hL r)).1
theorem partsOf_heap {h : List Int} (H : IsHeap h) {L : Int} (hL : 0 < L) : ∀ p ∈ partsOf h L, IsHeap p ∧ p.length ≤ h.length + padN h L := fun p hp => by
  obtain ⟨r, _, rfl⟩ := List.mem_map.mp hp
  refine ⟨partOf_heap H hL r, ?_⟩
  have h1 := (beads_pad (cl_beads (padM_beads H L) hL (r : Int))).2.1
  have h2 := cnt_le (padM h L) L (r : Int)
  rw [cl_len] at h1
  rw [padM_size] at h2
  exact Nat.le_trans h1 h2
/-- the core and the parts of a heap, joined -/
theorem join_back {h : List Int} {L : Int} (hL : 0 < L) (H : IsHeap h) : joinM (coreOf h L) (partsOf h L) L = h := by
  have hc : rimsH (coreOf h L) L = [] := (rims_none (coreOf_heap hL h) hL).mpr (core_core H hL).2
  obtain ⟨j, _⟩ := join_ok hL (coreOf_heap hL h) hc (partsOf_len hL) fun p hp => (partsOf_heap H hL p hp).1
  refine parts_inj j.heap H hL j.core fun r h0 h1 => ?_
  have e := congrArg (fun l => l[r.toNat]?) j.parts
  have e2 : ∀ k : List Int, (partsOf k L)[r.toNat]? = some (partOf k L r) := fun k => by
    unfold partsOf
    rw [List.getElem?_map, List.getElem?_range (by omega)]
    show some (partOf k L ((r.toNat : Nat) : Int)) = _
    congr 2
    omega
  simp only [e2] at e
  exact Option.some.inj e
end Rh

namespace Rh
open PySem PySem.Spec PyProof.Rows L2 Evl

def runM (L : Int) : List Int → List Int → Option (List Int)
  | h, [] => some h
  | h, r :: rs => if r ∈ rimsH h L then runM L (behindOf h L r.toNat) rs else none
def dueM (h : List Int) (L : Int) (rows left : List Int) : Bool :=
  match runM L h rows with
  | none => false
  | some now => decide (now = left) && decide (rimsH now L = [])
theorem runM_append (L : Int) : ∀ (r s h : List Int), runM L h (r ++ s) = (runM L h r).bind fun m => runM L m s
  | [], s, h => rfl
  | x :: r, s, h => by
    show (if x ∈ rimsH h L then runM L (behindOf h L x.toNat) (r ++ s) else none) = _
    rw [runM_append L r s]
    show _ = (if x ∈ rimsH h L then runM L (behindOf h L x.toNat) r else none).bind _
    split <;> rfl
theorem runM_snoc {L n : Int} {r h m : List Int} (h1 : runM L h r = some m) (h2 : n ∈ rimsH m L) : runM L h (r ++ [n]) = some (behindOf m L n.toNat) := by
  rw [runM_append, h1]
  show (if n ∈ rimsH m L then runM L (behindOf m L n.toNat) [] else none) = _
  rw [if_pos h2]
  rfl
theorem runM_bad {L n : Int} {r s h m : List Int} (h1 : runM L h r = some m) (h2 : n ∉ rimsH m L) : runM L h (r ++ n :: s) = none := by
  rw [runM_append, h1]
  show (if n ∈ rimsH m L then _ else none) = _
  rw [if_neg h2]
theorem runM_pre {L : Int} {r s h m : List Int} (h1 : runM L h (r ++ s) = some m) : ∃ k, runM L h r = some k := by
  rw [runM_append] at h1
  cases e : runM L h r with
  | none =>
    rw [e] at h1
    cases h1
  | some k => exact ⟨k, rfl⟩
theorem rim_row {h : List Int} {L r : Int} (hr : r ∈ rimsH h L) : ∃ i : Nat, r = i ∧ i < h.length ∧ IsRim (marksOf h) L i := by
  obtain ⟨i, e, hi⟩ := mem_rimsM.mp hr
  have := rim_lt hi
  rw [marksOf_len] at this
  exact ⟨i, e, this, hi⟩
theorem behind_len (h : List Int) (L : Int) (i : Nat) : (behindOf h L i).length ≤ h.length := by
  refine Nat.le_trans (heapOf_len _) ?_
  rw [dropAt_len, marksOf_len]
  exact Nat.le_refl _
theorem runM_len {L : Int} : ∀ {r h m : List Int}, runM L h r = some m → m.length ≤ h.length
  | [], h, m, e => by
    cases e
    exact Nat.le_refl _
  | x :: r, h, m, e => by
    unfold runM at e
    split at e
    · exact Nat.le_trans (runM_len e) (behind_len _ _ _)
    · cases e
theorem due_some {h m left rows : List Int} {L : Int} (e : runM L h rows = some m) : dueM h L rows left = (decide (m = left) && decide (rimsH m L = [])) := by
  unfold dueM
  rw [e]
theorem due_none {h left rows : List Int} {L : Int} (e : runM L h rows = none) : dueM h L rows left = false := by
  unfold dueM
  rw [e]

structure GoneT (K : PySem.W.Frag) (mg : Str → Option Value) (C CA : Addr) : Prop where
  cl : Cls K C
  nR : NoAttr K C "rows"
  nL : NoAttr K C "left"
  mgC : mg "Gone" = some (.ref C)
  mgA : mg "Answer" = some (.ref CA)
  hc : PySem.W.findIn K (.ref C) "__class__" = some (some (.builtin "object.__class__"))
  hg : PySem.W.specialIn K (.builtin "object.__class__") "__get__" = some (some (.builtin "getset_descriptor.__get__"))
  ht : PySem.W.takesIn K (.builtin "object.__class__") = some true
  hm : PySem.W.mroIn K C (.type "object") = some true
  iA : PySem.W.kitOne K (.ref C) (.ref CA) = some true
structure MkD (P : Program) (w : World) (K : PySem.W.Frag) (mg : Str → Option Value) (base : Heap) (CX : CXT) (k : Nat) (C f : Addr) (fd : FuncData) (ps : List Str) (sp : Sp) : Prop where
  made : Mk K C f
  ok : FnOk P w K mg base CX k f fd ps sp
  bd : Binds K fd ps []
structure MthD (P : Program) (w : World) (K : PySem.W.Frag) (mg : Str → Option Value) (base : Heap) (CX : CXT) (k : Nat) (C : Addr) (m : Str) (f : Addr) (fd : FuncData) (ps : List Str) (sp : Sp) : Prop where
  me : Meth K C m f
  ok : FnOk P w K mg base CX k f fd ps sp
  bd : Binds K fd ps []
theorem pe_mkd {X : Cx} {CX : CXT} {k j : Nat} {C f : Addr} {fd : FuncData} {ps : List Str} {sp : Sp} {E : XK} {x : Str} {p pos : Pos} {e : Expr} {es : List Expr} {t : TA}
    (D : MkD X.prog X.w X.K X.mg X.base CX j C f fd ps sp) (hr : Room k X.A) (hj : j + 1 ≤ k) (hg : Gl X x) (hm : X.mg x = some (.ref C)) (hx : Passes CX X E) (ha : PA X (e :: es) t)
    (hd : (x == ("__debug__" : Str)) = false := by decide)
    (he : starEach (e :: es) X.env = (false, eval e X.env) :: starEach es X.env := by rfl) (hpl : (backTo pos (starEach es X.env)).any (·.1) = false := by rfl) :
    PE X (.Call (.Name x p) (e :: es) [] pos) (tMake C sp [] E t) := pe_make D.made D.ok (hr.mono hj) hg hm D.bd .nil hx ha (hdb := hd) (he := he) (hpl := hpl)
theorem pe_mtd {X : Cx} {CX : CXT} {k j : Nat} {C f : Addr} {fd : FuncData} {ps : List Str} {sp : Sp} {E : XK} {m : Str} {pos apos : Pos} {o e : Expr} {es : List Expr} {ta : TE} {t : TA} {pl : Sem Bool}
    (D : MthD X.prog X.w X.K X.mg X.base CX j C m f fd ps sp) (c : Cls X.K C) (ho : PE X o ta) (hr : Room k X.A) (hj : j ≤ k) (hx : Passes CX X E) (ha : PA X (e :: es) t)
    (hst : starEach (e :: es) X.env = (false, eval e X.env) :: starEach es X.env := by rfl) (hpl : (backTo pos (starEach es X.env)).any (·.1) = false := by rfl)
    (ht : eval (.Call (.Attribute o m apos) (e :: es) [] pos) X.env = (do
      let ov ← eval o X.env
      standAt apos.atName
      let (f, first) ← holding [ov] (getMethod ov m pl)
      callWith pos f first (backTo pos (starEach (e :: es) X.env)) (backToKw pos (keywordEach [] X.env))) := by rfl) :
    PE X (.Call (.Attribute o m apos) (e :: es) [] pos) (tMeth C m sp [] E ta t) := pe_meth ho c D.me D.ok (hr.mono hj) D.bd .nil hx ha (hst := hst) (hpl := hpl) (ht := ht)
theorem sq_other {K : PySem.W.Frag} {H : Hp} {x b C dx : Addr} {fs gs : List (Str × V)} {xs : List V} (h : SqL K H b xs) (hx : H x = some (.ins C dx fs)) : SqL K (upd H x (.ins C dx gs)) b xs := by
  rcases h with (h | ⟨o, h⟩) | h
  · exact .inl (.inl (by rw [upd_ne (fun z => by rw [z, hx] at h; cases h)]; exact h))
  · exact .inl (.inr ⟨o, by rw [upd_ne (fun z => by rw [z, hx] at h; cases h)]; exact h⟩)
  · exact .inr h
theorem kRL : ¬ (("rows" : Str) = "left") := by decide +kernel
def gf (pr pl : Addr) : List (Str × V) := putF "left" (.ref pl) (putF "rows" (.ref pr) [])
theorem gf_rows (pr pl : Addr) : (gf pr pl).lookup ("rows" : Str) = some (.ref pr) := by
  unfold gf
  rw [lookup_putF, if_neg kRL, lookup_putF, if_pos rfl]
theorem gf_left (pr pl : Addr) : (gf pr pl).lookup ("left" : Str) = some (.ref pl) := by
  unfold gf
  rw [lookup_putF, if_pos rfl]
theorem gf_shows (pr pl : Addr) : (gf pr pl).lookup ("shows" : Str) = none := by
  unfold gf
  rw [lookup_putF, if_neg (by decide +kernel), lookup_putF, if_neg (by decide +kernel)]
  rfl
def GoneAt (C : Addr) (H : Hp) (x pr pl : Addr) : Prop := ∃ dx, H x = some (.ins C dx (gf pr pl))
theorem GoneAt.ex {C x pr pl : Addr} {H H' : Hp} (g : GoneAt C H x pr pl) (e : Ex H H') : GoneAt C H' x pr pl := let ⟨dx, h⟩ := g; ⟨dx, e _ _ h⟩
/-- a value that is a list of ints at an address, of some kind -/
def EvN (te : TE) (σ : L2.St) (H : Hp) (Good : List Int → Prop) : Prop := ∀ H1, Ex H H1 → ∀ Q : VK, (∀ p ns H2, Ex H1 H2 → H2 p = some (.lst (ns.map V.int)) → Good ns → Q (.ref p) H2) → te σ H1 Q
def EvAN (ta : TA) (σ : L2.St) (H : Hp) (Good : List Int → Prop) : Prop := ∀ H1, Ex H H1 → ∀ Q : List V → Hp → Prop, (∀ (vs : List V) H2, Ex H1 H2 → vs.length ≤ 100 → (∀ v ∈ vs, ∃ p ns, v = V.ref p ∧ H2 p = some (.lst (ns.map V.int)) ∧ Good ns) → Q vs H2) → ta σ H1 Q
section
variable {K : PySem.W.Frag} {mg : Str → Option Value} {σ : L2.St} {H H' : Hp} {ta tb tc te tx tl : TE} {t u : TT} {x y z v : V} {i j l : Int} {a b C CA g pr pl : Addr} {ns hs ms xs rs ls : List Int} {D : Ends} {tu tw tz : TS} {tg : TA} {E : XK} {Good : List Int → Prop}
theorem EvN.mono (e : Ex H H') (h : EvN te σ H Good) : EvN te σ H' Good := fun H1 a Q q => h H1 (e.trans a) Q q
theorem en_new (h : EvL te σ H (ns.map V.int)) (hg : Good ns) : EvN te σ H Good := fun H1 e Q q => h H1 e _ fun p H2 _ e2 h2 => q p ns H2 e2 h2 hg
theorem en_old (h : Ev te σ H (.ref a)) (ha : H a = some (.lst (ns.map V.int))) (hg : Good ns) : EvN te σ H Good := fun H1 e Q q => h H1 e _ fun H2 e2 => q a ns H2 e2 ((e.trans e2) _ _ ha) hg
theorem ean_nil : EvAN tNil σ H Good := fun H1 _ _ q => q [] H1 (Ex.refl H1) (Nat.zero_le _) fun _ h => by cases h
/-- few of them: 4 at most are met -/
theorem ean_one (h : EvN ta σ H Good) : EvAN (tCons ta tNil) σ H Good := fun H1 e Q q => h H1 e _ fun p ns H2 e2 h2 hg => q [.ref p] H2 e2 (Nat.le_of_ble_eq_true rfl) fun v hv => by
  rcases List.mem_cons.mp hv with rfl | hv
  · exact ⟨p, ns, rfl, h2, hg⟩
  · cases hv
theorem ean_two (h : EvN ta σ H Good) (h2 : EvN tb σ H Good) : EvAN (tCons ta (tCons tb tNil)) σ H Good := fun H1 e Q q => h H1 e _ fun p ns H2 e2 q2 g2 => h2 H2 (e.trans e2) _ fun r ms H3 e3 q3 g3 => q [.ref p, .ref r] H3 (e2.trans e3) (Nat.le_of_ble_eq_true rfl) fun v hv => by
  rcases List.mem_cons.mp hv with rfl | hv
  · exact ⟨p, ns, rfl, e3 _ _ q2, g2⟩
  · rcases List.mem_cons.mp hv with rfl | hv
    · exact ⟨r, ms, rfl, q3, g3⟩
    · cases hv
theorem ean_four {td : TE} (h : EvN ta σ H Good) (h2 : EvN tb σ H Good) (h3 : EvN tc σ H Good) (h4 : EvN td σ H Good) : EvAN (tCons ta (tCons tb (tCons tc (tCons td tNil)))) σ H Good := fun H1 e Q q => h H1 e _ fun p ns H2 e2 q2 g2 => h2 H2 (e.trans e2) _ fun r ms H3 e3 q3 g3 =>
  h3 H3 ((e.trans e2).trans e3) _ fun s ks H4 e4 q4 g4 => h4 H4 (((e.trans e2).trans e3).trans e4) _ fun o os H5 e5 q5 g5 => q [.ref p, .ref r, .ref s, .ref o] H5 (((e2.trans e3).trans e4).trans e5) (Nat.le_of_ble_eq_true rfl) fun v hv => by
  rcases List.mem_cons.mp hv with rfl | hv
  · exact ⟨p, ns, rfl, e5 _ _ (e4 _ _ (e3 _ _ q2)), g2⟩
  · rcases List.mem_cons.mp hv with rfl | hv
    · exact ⟨r, ms, rfl, e5 _ _ (e4 _ _ q3), g3⟩
    · rcases List.mem_cons.mp hv with rfl | hv
      · exact ⟨s, ks, rfl, e5 _ _ q4, g4⟩
      · rcases List.mem_cons.mp hv with rfl | hv
        · exact ⟨o, os, rfl, q5, g5⟩
        · cases hv
/-- for x in (lists of ints) -/
theorem s_forAN {k : Nat} (h : EvAN tg σ H Good) (Pv : Hp → L2.St → Hp → Prop) (hE : ∀ H0 σ' H', Pv H0 σ' H' → Ex H0 H') (h0 : ∀ H1, Ex H H1 → Pv H1 σ H1)
    (hs : ∀ H0 p ns σ' H', Good ns → Ex H H0 → H0 p = some (.lst (ns.map V.int)) → Pv H0 σ' H' → tu { D with nx := Pv H0, ct := Pv H0, bk := D.nx } (σ'.set k (some (.ref p))) H') (hd : ∀ H0 σ' H', Ex H H0 → Pv H0 σ' H' → D.nx σ' H') : tFor (iTup K (tTup tg)) (gName k) tu D σ H :=
  h H (Ex.refl H) _ fun vs H1 e hl hv => ⟨Nat.le_trans hl (by decide), fun T hT => ⟨T, rfl, ⟨_, .inl (.inl upd_same)⟩,
    for_tup (xs := vs) (fun _ => Pv (upd H1 T (.tup vs))) (h0 _ (e.trans (Ex.new hT))) (fun i σ' H' _ q => .inl (.inl (hE _ _ _ q _ _ upd_same))) (fun i x σ' H' hi q => by
      obtain ⟨p, ns, rfl, hp, hg⟩ := hv x (List.mem_of_getElem? hi)
      exact hs _ p ns σ' H' hg (e.trans (Ex.new hT)) (Ex.new hT _ _ hp) q) (fun σ' H' q => hd _ σ' H' (e.trans (Ex.new hT)) q)⟩⟩
theorem q_forAN {k : Nat} (h : EvAN tg σ H Good) (Pv : Hp → L2.St → Hp → Prop) (hE : ∀ H0 σ' H', Pv H0 σ' H' → Ex H0 H') (h0 : ∀ H1, Ex H H1 → Pv H1 σ H1)
    (hs : ∀ H0 p ns σ' H', Good ns → Ex H H0 → H0 p = some (.lst (ns.map V.int)) → Pv H0 σ' H' → tu { D with nx := Pv H0, ct := Pv H0, bk := tz D } (σ'.set k (some (.ref p))) H') (hd : ∀ H0 σ' H', Ex H H0 → Pv H0 σ' H' → tz D σ' H') : tSeq (tFor (iTup K (tTup tg)) (gName k) tu) tz D σ H :=
  s_forAN (D := { D with nx := tz D }) h Pv hE h0 hs hd
/-- fields -/
theorem ev_rows (T : GoneT K mg C CA) (h : Ev ta σ H (.ref g)) (hg : GoneAt C H g pr pl) : Ev (tFld K ta "rows") σ H (.ref pr) := fun H1 e Q q => h H1 e _ fun H2 e2 =>
  let ⟨dx, hx⟩ := hg
  ⟨g, C, dx, _, _, rfl, (e.trans e2) _ _ hx, T.cl, T.nR, gf_rows _ _, q H2 e2⟩
theorem ev_left (T : GoneT K mg C CA) (h : Ev ta σ H (.ref g)) (hg : GoneAt C H g pr pl) : Ev (tFld K ta "left") σ H (.ref pl) := fun H1 e Q q => h H1 e _ fun H2 e2 =>
  let ⟨dx, hx⟩ := hg
  ⟨g, C, dx, _, _, rfl, (e.trans e2) _ _ hx, T.cl, T.nL, gf_left _ _, q H2 e2⟩
theorem ev_isG (T : GoneT K mg C CA) (h : Ev ta σ H (.ref g)) (hg : GoneAt C H g pr pl) : Ev (tCB (rIsi K) (tCons ta (tCons (tC (.ref C)) tNil))) σ H (.bl true) := fun H1 e Q q => h H1 e _ fun H2 e2 =>
  let ⟨dx, hx⟩ := hg
  ⟨.ref g, .ref C, .ref C, .ref C, true, rfl, .own C, .base (.ins ((e.trans e2) _ _ hx) T.cl T.hc T.hg T.ht T.hm), by unfold PySem.W.kitOne; rw [if_pos (beq_self_eq_true _)], q H2 e2⟩
theorem ev_isA (T : GoneT K mg C CA) (h : Ev ta σ H (.ref g)) (hg : GoneAt C H g pr pl) : Ev (tCB (rIsi K) (tCons ta (tCons (tC (.ref CA)) tNil))) σ H (.bl true) := fun H1 e Q q => h H1 e _ fun H2 e2 =>
  let ⟨dx, hx⟩ := hg
  ⟨.ref g, .ref CA, .ref C, .ref CA, true, rfl, .own CA, .base (.ins ((e.trans e2) _ _ hx) T.cl T.hc T.hg T.ht T.hm), T.iA, q H2 e2⟩
end
section
variable (K : PySem.W.Frag) (C : Addr)
def sp_Gone_init : Sp := fun vs H Q _ => ∃ (x dx a b : Addr) (rs ls : List Int), vs = [.ref x, .ref a, .ref b] ∧ H x = some (.ins C dx []) ∧ SqL K H a (rs.map V.int) ∧ SqL K H b (ls.map V.int) ∧
  ∀ pr pl H', H pr = none → H pl = none → pr ≠ pl → (∀ c o, H c = some o → c ≠ x → H' c = some o) → H' x = some (.ins C dx (gf pr pl)) → H' pr = some (.lst (rs.map V.int)) → H' pl = some (.lst (ls.map V.int)) → Q .non H'
def sp_Gone_shows : Sp := fun vs H Q _ => ∃ (x pr pl a : Addr) (rs ls hs : List Int) (L : Int), vs = [.ref x, .ref a, .int L] ∧ GoneAt C H x pr pl ∧ SqL K H pr (rs.map V.int) ∧ SqL K H pl (ls.map V.int) ∧ SqL K H a (hs.map V.int) ∧ Len hs ∧ RetV (.bl (dueM hs L rs ls)) H Q
def sp_gone : Sp := fun vs H Q _ => ∃ (a : Addr) (hs : List Int) (L : Int), vs = [.ref a, .int L] ∧ SqL K H a (hs.map V.int) ∧ ((IsHeap hs ∧ Len hs) ∧ 1 ≤ L ∧ L.natAbs.log2 < 9000 ∧ rimsIn hs L ≤ 1000) ∧
  ∀ (x pr pl : Addr) (R : List Int) (H2 : Hp), H x = none → H pr = none → H pl = none → pr ≠ pl → Ex H H2 → GoneAt C H2 x pr pl → H2 pr = some (.lst (R.map V.int)) → H2 pl = some (.lst ((coreOf hs L).map V.int)) → runM L hs R = some (coreOf hs L) → ((R.length : Nat) : Int) = rimsIn hs L → Q (.ref x) H2
def sp_l_says : Sp := fun vs H Q _ => ∃ (b c : Bool), vs = [.bl b, .bl c] ∧ RetV (.bl (decide (b = c))) H Q
def sp_l_due : Sp := fun vs H Q _ => ∃ (a b c : Addr) (hs rs ls : List Int) (L : Int), vs = [.ref a, .int L, .ref b, .ref c] ∧ SqL K H a (hs.map V.int) ∧ SqL K H b (rs.map V.int) ∧ SqL K H c (ls.map V.int) ∧ Len hs ∧ RetV (.bl (dueM hs L rs ls)) H Q
def sp_l_turn : Sp := fun vs H Q _ => ∃ (a b : Addr) (ns hs : List Int) (L : Int), vs = [.ref a, .ref b, .int L] ∧ SqL K H a (ns.map V.int) ∧ SqL K H b (hs.map V.int) ∧ (Len ns ∧ (IsHeap hs ∧ Len hs) ∧ 1 ≤ L ∧ rimsIn hs L ≤ 1000) ∧
  ∀ (p pr pn : Addr) (R ms : List Int) (H2 : Hp), Ex H H2 → H2 p = some (.tup [.ref pr, .ref pn]) → H2 pr = some (.lst (R.map V.int)) → H2 pn = some (.lst (ms.map V.int)) → runM L hs R = some ms → R.length ≤ 1000 → Q (.ref p) H2
def sp_l_bent : Sp := fun vs H Q _ => ∃ (a : Addr) (ns : List Int) (i j : Int), vs = [.ref a, .int i, .int j] ∧ SqL K H a (ns.map V.int) ∧ ns.length ≤ 20000 ∧ ∀ (p : Addr) (ms : List Int) (H2 : Hp), Ex H H2 → H2 p = some (.lst (ms.map V.int)) → ms.length ≤ 30000 → Q (.ref p) H2
def sp_l_made_right : Sp := fun vs H Q _ => ∃ (a b c : Addr) (hs rs ls : List Int) (L : Int), vs = [.ref a, .int L, .ref b, .ref c] ∧ SqL K H a (hs.map V.int) ∧ H b = some (.lst (rs.map V.int)) ∧ SqL K H c (ls.map V.int) ∧ (Len hs ∧ rs.length ≤ 50000 ∧ ls.length ≤ 50000) ∧ RetV (.bl true) H Q
def sp_l_right4 : Sp := fun vs H Q _ => ∃ (a b : Addr) (ns hs : List Int) (L : Int), vs = [.ref a, .ref b, .int L] ∧ SqL K H a (ns.map V.int) ∧ SqL K H b (hs.map V.int) ∧ (Len ns ∧ (IsHeap hs ∧ hs.length ≤ 80) ∧ (1 ≤ L ∧ L ≤ 1000) ∧ rimsIn hs L ≤ 1000) ∧ RetV (.bl true) H Q
def sp_l_few_right : Sp := spLi K (fun hs L => Made hs ∧ Lgth L) fun _ _ => RetV (.bl true)
end
end Rh
namespace Rh
open PySem PySem.Spec PyProof.Rows L2 Evl
theorem atI_lastI {ns : List Int} (h : 0 < ns.length) : atI (ns.map V.int) (-1) = some (.int (ns.getD (ns.length - 1) 0)) := by
  have hne : ns ≠ [] := by
    intro e
    rw [e] at h
    cases h
  have e : ns.map V.int = ns.dropLast.map V.int ++ [.int (ns.getLast hne)] := by
    rw [← List.map_singleton, ← List.map_append, List.dropLast_concat_getLast]
  rw [e, atI_last]
  congr 2
  rw [List.getLast_eq_getElem, List.getD_eq_getElem?_getD, List.getElem?_eq_getElem (by omega)]
  rfl
end Rh

namespace Rh
open PySem PySem.Spec PyProof.Rows L2 Evl
section
variable {K : PySem.W.Frag} {mg : Str → Option Value} {σ : L2.St} {H H' : Hp} {ta tb tc td te tx tl : TE} {t u : TT} {x y z v : V} {i j l : Int} {a b c C CA g pr pl : Addr} {ns hs ms xs rs ls : List Int} {D : Ends} {tu tw tz : TS} {tg : TA} {E : XK} {Good : List Int → Prop} {L : Int}
theorem atI_snocI {n : Int} : atI ((ns ++ [n]).map V.int) (-1) = some (.int n) := by
  rw [List.map_append, List.map_singleton]
  exact atI_last _ _
/-- one list or another -/
theorem en_if {b : Bool} (h : EvT t σ H b) (h1 : b = true → EvN ta σ H Good) (h2 : b = false → EvN tb σ H Good) : EvN (tIf t ta tb) σ H Good := fun H1 e Q q => h H1 e _ fun H2 e2 => by
  cases b with
  | true =>
    show ta σ H2 Q
    exact h1 rfl H2 (e.trans e2) Q fun p ns H3 e3 => q p ns H3 (e2.trans e3)
  | false =>
    show tb σ H2 Q
    exact h2 rfl H2 (e.trans e2) Q fun p ns H3 e3 => q p ns H3 (e2.trans e3)
theorem s_retN (h : EvN te σ H Good) (q : ∀ p ns H1, Ex H H1 → H1 p = some (.lst (ns.map V.int)) → Good ns → D.rt (.ref p) H1) : tRet te D σ H := h H (Ex.refl H) _ q
/-- xs[i], xs[j] = xs[j], xs[i], of variables -/
theorem s_swapI {l : Addr} {nl n1 n2 : Nat} {j1 j2 : Nat} {m1 m2 : Int} (hl : H l = some (.lst (ns.map V.int))) (h1 : Ev ta σ H (.int m1)) (h2 : Ev tb σ H (.int m2)) (v0 : σ[nl]? = some (some (.ref l))) (v1 : σ[n1]? = some (some (.int (j1 : Nat)))) (v2 : σ[n2]? = some (some (.int (j2 : Nat))))
    (b1 : j1 < ns.length) (b2 : j2 < ns.length) (k : ∀ H2 (ms : List Int), (∀ H0, H0 l = none → Ex H0 H → Ex H0 H2) → H2 l = some (.lst (ms.map V.int)) → ms.length = ns.length → D.nx σ H2) :
    tAsg (tTup (tCons ta (tCons tb tNil))) (gTup K 2 (gCons (gSub (tVar nl) (tVar n1) rSetL) (gCons (gSub (tVar nl) (tVar n2) rSetL) gNil))) D σ H :=
  h1 H (Ex.refl H) _ fun H1 e1 => h2 H1 e1 _ fun H2 e2 => ⟨Nat.le_of_ble_eq_true rfl, fun T hT => ⟨T, [.int m1, .int m2], rfl, .inl (.inl upd_same), rfl, .int m1, _, rfl, .ref l, v0, .int (j1 : Nat), v1,
    l, ns.map V.int, (j1 : Int), j1, rfl, rfl, Ex.new hT _ _ ((e1.trans e2) _ _ hl), ixN_nat (by rw [List.length_map]; exact b1), .int m2, _, rfl, .ref l, v0, .int (j2 : Nat), v2,
    l, (ns.map V.int).set j1 (.int m1), (j2 : Int), j2, rfl, rfl, upd_same, ixN_nat (by rw [List.length_set, List.length_map]; exact b2), rfl, k _ ((ns.set j1 m1).set j2 m2) (fun H0 h0 e0 => (((e0.trans (e1.trans e2)).trans (Ex.new hT)).mut h0).mut h0) (by rw [upd_same, List.map_set, List.map_set]) (by simp)⟩⟩
/-- xs[i] = e -/
theorem s_setI {l : Addr} {k : Nat} (hl : H l = some (.lst (ns.map V.int))) (h : Ev te σ H (.int i)) (ho : Ev ta σ H (.ref l)) (hi : Ev tb σ H (.int (k : Int))) (hk : k < ns.length) (q : ∀ H1, Ex H H1 → D.nx σ (upd H1 l (.lst ((ns.set k i).map V.int)))) :
    tAsg te (gSub ta tb rSetL) D σ H := s_setL hl h ho hi (by rw [List.length_map]; exact hk) fun H1 e => by
  rw [← List.map_set]
  exact q H1 e
/-- xs.pop(i) -/
theorem s_popI {l : Addr} {k : Nat} (hl : H l = some (.lst (ns.map V.int))) (ha : Ev ta σ H (.ref l)) (hi : Ev tb σ H (.int (k : Int))) (hk : k < ns.length) (h63 : (k : Int) < 2 ^ 63) (q : ∀ H1, Ex H H1 → D.nx σ (upd H1 l (.lst ((ns.eraseIdx k).map V.int)))) :
    tDrop (tBM K "list" rPopAt ta (tCons tb tNil)) D σ H := ha H (Ex.refl H) _ fun H1 e1 => ⟨Or.inl ⟨rfl, _, sq_of (e1 l _ hl)⟩, hi H1 e1 _ fun H2 e2 =>
  ⟨l, ns.map V.int, (k : Int), k, .int ns[k], rfl, rfl, (e1.trans e2) l _ hl, by omega, h63, by
    have := PySem.StrLaws.seqIndex_nonneg (i := (k : Int)) (n := (ns.map V.int).length) (by omega) (by rw [List.length_map]; omega)
    rw [this, Int.toNat_natCast], by rw [List.getElem?_map, List.getElem?_eq_getElem hk]; rfl, by
    have := q H2 (e1.trans e2)
    rw [List.eraseIdx_eq_take_drop_succ, List.map_append, List.map_take, List.map_drop] at this
    show D.nx σ _
    rw [List.eraseIdx_eq_take_drop_succ]
    exact this⟩⟩
/-- xs.insert(i, e) -/
theorem s_insI {l : Addr} {k : Nat} {n : Int} (hl : H l = some (.lst (ns.map V.int))) (ha : Ev ta σ H (.ref l)) (hi : Ev tb σ H (.int (k : Int))) (hv : Ev tc σ H (.int n)) (hz : ns.length < 100000) (h63 : (k : Int) < 2 ^ 63) (q : ∀ H1, Ex H H1 → D.nx σ (upd H1 l (.lst ((ns.take k ++ [n] ++ ns.drop k).map V.int)))) :
    tDrop (tBM K "list" (fun x vs H Q => ∃ (l : Addr) (xs : List V) (i : Int) (y : V), x = .ref l ∧ vs = [.int i, y] ∧ H l = some (.lst xs) ∧ xs.length < sizeLine ∧ 0 ≤ i ∧ i < 2 ^ 63 ∧
    Q .non (upd H l (.lst (xs.take i.toNat ++ [y] ++ xs.drop i.toNat)))) ta (tCons tb (tCons tc tNil))) D σ H := ha H (Ex.refl H) _ fun H1 e1 => ⟨Or.inl ⟨rfl, _, sq_of (e1 l _ hl)⟩, hi H1 e1 _ fun H2 e2 => hv H2 (e1.trans e2) _ fun H3 e3 =>
  ⟨l, ns.map V.int, (k : Int), .int n, rfl, rfl, ((e1.trans e2).trans e3) l _ hl, by rw [List.length_map]; exact sz_lt hz, by omega, h63, by
    have := q H3 ((e1.trans e2).trans e3)
    rw [List.map_append, List.map_append, List.map_take, List.map_drop] at this
    rw [Int.toNat_natCast]
    exact this⟩⟩
/-- a new answer -/
def EvG (C : Addr) (te : TE) (σ : L2.St) (H : Hp) (Good : List Int → List Int → Prop) : Prop := ∀ H1, Ex H H1 → ∀ Q : VK, (∀ (x pr pl : Addr) (rs ls : List Int) H2, H1 x = none → H1 pr = none → H1 pl = none → pr ≠ pl → Ex H1 H2 → GoneAt C H2 x pr pl → H2 pr = some (.lst (rs.map V.int)) → H2 pl = some (.lst (ls.map V.int)) → Good rs ls → Q (.ref x) H2) → te σ H1 Q
theorem eg_make (h : EvA tg σ H [.ref a, .ref b]) (ha : SqL K H a (rs.map V.int)) (hb : SqL K H b (ls.map V.int)) : EvG C (tMake C (sp_Gone_init K C) [] E tg) σ H (fun r l => r = rs ∧ l = ls) := fun H1 e Q q => h H1 e _ fun H2 e2 => fun x dx hx hdx hdx2 => by
  have e3 : Ex H2 (upd (upd H2 dx (.own x)) x (.ins C dx [])) := fun c o hc => by
    rw [upd_ne (ne_of_none hc hx), upd_ne (ne_of_none hc hdx)]
    exact hc
  refine ⟨x, dx, a, b, rs, ls, rfl, upd_same, ex_l ((e.trans e2).trans e3) ha, ex_l ((e.trans e2).trans e3) hb, fun qr ql H5 hqr hql hne keep hx5 hr5 hl5 => ⟨rfl, ?_⟩⟩
  have e6 : Ex H2 H5 := fun c o hc => keep c o (e3 c o hc) (ne_of_none hc hx)
  exact q x qr ql rs ls H5 (fresh_back e2 hx) (fresh_back (e2.trans e3) hqr) (fresh_back (e2.trans e3) hql) hne (e2.trans e6) ⟨dx, hx5⟩ hr5 hl5 ⟨rfl, rfl⟩
theorem eg_gone (h : EvA tg σ H [.ref a, .int L]) (ha : SqL K H a (hs.map V.int)) (hp : (IsHeap hs ∧ Len hs) ∧ 1 ≤ L ∧ L.natAbs.log2 < 9000 ∧ rimsIn hs L ≤ 1000) :
    EvG C (tCall (sp_gone K C) [] E tg) σ H (fun R l => l = coreOf hs L ∧ runM L hs R = some (coreOf hs L) ∧ ((R.length : Nat) : Int) = rimsIn hs L) := fun H1 e Q q => h H1 e _ fun H2 e2 =>
  ⟨a, hs, L, rfl, ex_l (e.trans e2) ha, hp, fun x pr pl R H3 hx hr hl hne e3 hg h4 h5 h6 h7 => q x pr pl R _ H3 (fresh_back e2 hx) (fresh_back e2 hr) (fresh_back e2 hl) hne (e2.trans e3) hg h4 h5 ⟨rfl, h6, h7⟩⟩
/-- of a new list -/
theorem eg_goneN (h : EvL ta σ H (hs.map V.int)) (hb : Ev tb σ H (.int L)) (hp : (IsHeap hs ∧ Len hs) ∧ 1 ≤ L ∧ L.natAbs.log2 < 9000 ∧ rimsIn hs L ≤ 1000) :
    EvG C (tCall (sp_gone K C) [] E (tCons ta (tCons tb tNil))) σ H (fun R l => l = coreOf hs L ∧ runM L hs R = some (coreOf hs L) ∧ ((R.length : Nat) : Int) = rimsIn hs L) := fun H1 e Q q => h H1 e _ fun p H2 _ e2 h2 => hb H2 (e.trans e2) _ fun H3 e3 =>
  ⟨p, hs, L, rfl, sq_map (e3 _ _ h2), hp, fun x pr pl R H4 hx hr hl hne e4 hg h4 h5 h6 h7 => q x pr pl R _ H4 (fresh_back (e2.trans e3) hx) (fresh_back (e2.trans e3) hr) (fresh_back (e2.trans e3) hl) hne ((e2.trans e3).trans e4) hg h4 h5 ⟨rfl, h6, h7⟩⟩
theorem eg_makeN (h : EvL ta σ H (rs.map V.int)) (hb : EvL tb σ H (ls.map V.int)) : EvG C (tMake C (sp_Gone_init K C) [] E (tCons ta (tCons tb tNil))) σ H (fun r l => r = rs ∧ l = ls) := fun H1 e Q q => h H1 e _ fun p1 H2 _ e2 h2 => hb H2 (e.trans e2) _ fun p2 H3 _ e3 h3 => by
  refine (eg_make (K := K) (E := E) (tg := fun σ H Q => Q [.ref p1, .ref p2] H) (σ := σ) (H := H3) (rs := rs) (ls := ls) (C := C) (fun H4 _ Q q => q H4 (Ex.refl H4)) (sq_map (e3 _ _ h2)) (sq_map h3)) H3 (Ex.refl H3) _ ?_
  exact fun x pr pl rs ls H4 hx hr hl hne e4 => q x pr pl rs ls H4 (fresh_back (e2.trans e3) hx) (fresh_back (e2.trans e3) hr) (fresh_back (e2.trans e3) hl) hne ((e2.trans e3).trans e4)
theorem q_asgG {k : Nat} {Go : List Int → List Int → Prop} (h : EvG C te σ H Go) (q : ∀ (x pr pl : Addr) (rs ls : List Int) H1, H x = none → H pr = none → H pl = none → pr ≠ pl → Ex H H1 → GoneAt C H1 x pr pl → H1 pr = some (.lst (rs.map V.int)) → H1 pl = some (.lst (ls.map V.int)) → Go rs ls → tz D (σ.set k (some (.ref x))) H1) :
    tSeq (tAsg te (gName k)) tz D σ H := h H (Ex.refl H) _ q
/-- a field of a new answer beside a new list -/
theorem ev_eqRowsN (T : GoneT K mg C CA) {Go : List Int → List Int → Prop} (h : EvG C ta σ H Go) (h2 : EvL tb σ H (ms.map V.int)) (hg : ∀ r l, Go r l → r = ns) : Ev (tOp (rEqD K) (tFld K ta "rows") tb) σ H (.bl (decide (ns = ms))) := fun H1 e Q q => h H1 e _ fun x pr pl rs ls H2 _ _ _ _ e2 ⟨dx, hx⟩ h3 h4 gd => by
  cases hg _ _ gd
  exact ⟨x, C, dx, _, _, rfl, hx, T.cl, T.nR, gf_rows _ _, h2 H2 (e.trans e2) _ fun p H3 _ e3 h5 => rv_eqI (sq_map (e3 _ _ h3)) (sq_map h5) H3 (Ex.refl H3) Q fun H4 e4 => q H4 ((e2.trans e3).trans e4)⟩
theorem ev_eqLeftN (T : GoneT K mg C CA) {Go : List Int → List Int → Prop} (h : EvG C ta σ H Go) (h2 : EvL tb σ H (ms.map V.int)) (hg : ∀ r l, Go r l → l = ns) : Ev (tOp (rEqD K) (tFld K ta "left") tb) σ H (.bl (decide (ns = ms))) := fun H1 e Q q => h H1 e _ fun x pr pl rs ls H2 _ _ _ _ e2 ⟨dx, hx⟩ h3 h4 gd => by
  cases hg _ _ gd
  exact ⟨x, C, dx, _, _, rfl, hx, T.cl, T.nL, gf_left _ _, h2 H2 (e.trans e2) _ fun p H3 _ e3 h5 => rv_eqI (sq_map (e3 _ _ h4)) (sq_map h5) H3 (Ex.refl H3) Q fun H4 e4 => q H4 ((e2.trans e3).trans e4)⟩
/-- its own word -/
theorem ev_shows (h : Ev ta σ H (.ref g)) (hg : GoneAt C H g pr pl) (h2 : EvA tg σ H [.ref a, .int L]) (hr : SqL K H pr (rs.map V.int)) (hl : SqL K H pl (ls.map V.int)) (ha : SqL K H a (hs.map V.int)) (hp : Len hs) :
    Ev (tMeth C "shows" (sp_Gone_shows K C) [] E ta tg) σ H (.bl (dueM hs L rs ls)) := fun H1 e Q q => h H1 e _ fun H2 e2 => by
  obtain ⟨dx, hx⟩ := hg
  exact ⟨g, dx, _, rfl, (e.trans e2) _ _ hx, gf_shows _ _, h2 H2 (e.trans e2) _ fun H3 e3 =>
    have e03 := (e.trans e2).trans e3
    ⟨g, pr, pl, a, rs, ls, hs, L, rfl, ⟨dx, e03 _ _ hx⟩, ex_l e03 hr, ex_l e03 hl, ex_l e03 ha, hp, fun H4 e4 => q H4 ((e2.trans e3).trans e4)⟩⟩
/-- its own word, of a new answer and a new list -/
theorem ev_showsN {Go : List Int → List Int → Prop} (h : EvG C ta σ H Go) (h2 : EvL tb σ H (hs.map V.int)) (h3 : Ev tc σ H (.int L)) (hg : ∀ r l, Go r l → r = rs ∧ l = ls) (hp : Len hs) :
    Ev (tMeth C "shows" (sp_Gone_shows K C) [] E ta (tCons tb (tCons tc tNil))) σ H (.bl (dueM hs L rs ls)) := fun H1 e Q q => h H1 e _ fun x pr pl r l H2 _ _ _ _ e2 ⟨dx, hx⟩ h4 h5 gd => by
  obtain ⟨rfl, rfl⟩ := hg _ _ gd
  exact ⟨x, dx, _, rfl, hx, gf_shows _ _, h2 H2 (e.trans e2) _ fun p H3 _ e3 h6 => h3 H3 ((e.trans e2).trans e3) _ fun H4 e4 =>
    ⟨x, pr, pl, p, r, l, hs, L, rfl, ⟨dx, (e3.trans e4) _ _ hx⟩, sq_map ((e3.trans e4) _ _ h4), sq_map ((e3.trans e4) _ _ h5), sq_map (e4 _ _ h6), hp, fun H5 e5 => q H5 (((e2.trans e3).trans e4).trans e5)⟩⟩
theorem go_due (ha : SqL K H a (hs.map V.int)) (hb : SqL K H b (rs.map V.int)) (hc : SqL K H c (ls.map V.int)) (hp : Len hs) : SpV (sp_l_due K) [.ref a, .int L, .ref b, .ref c] H (.bl (dueM hs L rs ls)) := fun _ e Q q E => ⟨a, b, c, hs, rs, ls, L, rfl, ex_l e ha, ex_l e hb, ex_l e hc, hp, q⟩
theorem go_says {b c : Bool} : SpV sp_l_says [.bl b, .bl c] H (.bl (decide (b = c))) := fun _ e Q q E => ⟨b, c, rfl, q⟩
theorem ev_due3 (h1 : Ev ta σ H (.ref a)) (h2 : Ev tb σ H (.int L)) (h3 : EvL tc σ H (rs.map V.int)) (h4 : Ev td σ H (.ref c)) (ha : SqL K H a (hs.map V.int)) (hc : SqL K H c (ls.map V.int)) (hp : Len hs) :
    Ev (tCall (sp_l_due K) [] E (tCons ta (tCons tb (tCons tc (tCons td tNil))))) σ H (.bl (dueM hs L rs ls)) := fun H1 e Q q => h1 H1 e _ fun H2 e2 => h2 H2 (e.trans e2) _ fun H3 e3 => h3 H3 ((e.trans e2).trans e3) _ fun p H4 _ e4 h5 => h4 H4 (((e.trans e2).trans e3).trans e4) _ fun H5 e5 =>
  have e05 := (((e.trans e2).trans e3).trans e4).trans e5
  ⟨a, p, c, hs, rs, ls, L, rfl, ex_l e05 ha, sq_map (e5 _ _ h5), ex_l e05 hc, hp, fun H6 e6 => q H6 ((((e2.trans e3).trans e4).trans e5).trans e6)⟩
theorem go_made (ha : SqL K H a (hs.map V.int)) (hb : H b = some (.lst (rs.map V.int))) (hc : SqL K H c (ls.map V.int)) (hp : Len hs ∧ rs.length ≤ 50000 ∧ ls.length ≤ 50000) : SpV (sp_l_made_right K) [.ref a, .int L, .ref b, .ref c] H (.bl true) := fun _ e Q q E => ⟨a, b, c, hs, rs, ls, L, rfl, ex_l e ha, e _ _ hb, ex_l e hc, hp, q⟩
theorem ev_made3 (h1 : Ev ta σ H (.ref a)) (h2 : Ev tb σ H (.int L)) (h3 : EvL tc σ H (rs.map V.int)) (h4 : Ev td σ H (.ref c)) (ha : SqL K H a (hs.map V.int)) (hc : SqL K H c (ls.map V.int)) (hp : Len hs ∧ rs.length ≤ 50000 ∧ ls.length ≤ 50000) :
    Ev (tCall (sp_l_made_right K) [] E (tCons ta (tCons tb (tCons tc (tCons td tNil))))) σ H (.bl true) := fun H1 e Q q => h1 H1 e _ fun H2 e2 => h2 H2 (e.trans e2) _ fun H3 e3 => h3 H3 ((e.trans e2).trans e3) _ fun p H4 _ e4 h5 => h4 H4 (((e.trans e2).trans e3).trans e4) _ fun H5 e5 =>
  have e05 := (((e.trans e2).trans e3).trans e4).trans e5
  ⟨a, p, c, hs, rs, ls, L, rfl, ex_l e05 ha, e5 _ _ h5, ex_l e05 hc, hp, fun H6 e6 => q H6 ((((e2.trans e3).trans e4).trans e5).trans e6)⟩
theorem ev_made4 (h1 : Ev ta σ H (.ref a)) (h2 : Ev tb σ H (.int L)) (h3 : Ev tc σ H (.ref b)) (h4 : EvN td σ H fun l => l.length ≤ 50000) (ha : SqL K H a (hs.map V.int)) (hb : H b = some (.lst (rs.map V.int))) (hp : Len hs ∧ rs.length ≤ 50000) :
    Ev (tCall (sp_l_made_right K) [] E (tCons ta (tCons tb (tCons tc (tCons td tNil))))) σ H (.bl true) := fun H1 e Q q => h1 H1 e _ fun H2 e2 => h2 H2 (e.trans e2) _ fun H3 e3 => h3 H3 ((e.trans e2).trans e3) _ fun H4 e4 => h4 H4 (((e.trans e2).trans e3).trans e4) _ fun p ls H5 e5 h5 hl =>
  have e05 := (((e.trans e2).trans e3).trans e4).trans e5
  ⟨a, b, p, hs, rs, ls, L, rfl, ex_l e05 ha, e05 _ _ hb, sq_map h5, ⟨hp.1, hp.2, hl⟩, fun H6 e6 => q H6 ((((e2.trans e3).trans e4).trans e5).trans e6)⟩
theorem en_bent {i j : Int} (h : EvA tg σ H [.ref a, .int i, .int j]) (ha : SqL K H a (ns.map V.int)) (hl : ns.length ≤ 20000) (hG : ∀ ms : List Int, ms.length ≤ 30000 → Good ms) : EvN (tCall (sp_l_bent K) [] E tg) σ H Good := fun H1 e Q q => h H1 e _ fun H2 e2 =>
  ⟨a, ns, i, j, rfl, ex_l (e.trans e2) ha, hl, fun p ms H3 e3 h3 hm => q p ms H3 (e2.trans e3) h3 (hG ms hm)⟩
/-- rows, now = turn(a new list, heap, length) -/
theorem q_turn {k1 k2 : Nat} (h1 : EvL ta σ H (ns.map V.int)) (h2 : Ev tb σ H (.ref b)) (h3 : Ev tc σ H (.int L)) (hb : SqL K H b (hs.map V.int)) (hp : Len ns ∧ (IsHeap hs ∧ Len hs) ∧ 1 ≤ L ∧ rimsIn hs L ≤ 1000)
    (q : ∀ (pr pn : Addr) (R ms : List Int) H2, Ex H H2 → H2 pr = some (.lst (R.map V.int)) → H2 pn = some (.lst (ms.map V.int)) → runM L hs R = some ms → R.length ≤ 1000 → tz D ((σ.set k1 (some (.ref pr))).set k2 (some (.ref pn))) H2) :
    tSeq (tAsg (tCall (sp_l_turn K) [] E (tCons ta (tCons tb (tCons tc tNil)))) (gTup K 2 (gCons (gName k1) (gCons (gName k2) gNil)))) tz D σ H :=
  h1 H (Ex.refl H) _ fun p H1 _ e1 q1 => h2 H1 e1 _ fun H2 e2 => h3 H2 (e1.trans e2) _ fun H3 e3 => ⟨p, b, ns, hs, L, rfl, sq_map ((e2.trans e3) _ _ q1), ex_l ((e1.trans e2).trans e3) hb, hp, fun pt pr pn R ms H4 e4 ht hr hm hrun hl =>
    ⟨pt, [.ref pr, .ref pn], rfl, .inl (.inl ht), rfl, .ref pr, _, rfl, .ref pn, _, rfl, rfl, q pr pn R ms H4 (((e1.trans e2).trans e3).trans e4) hr hm hrun hl⟩⟩
/-- a core and a number beside a pair of these -/
theorem dp_pair {d : Addr} {cs : List Int} {n : Int} (hd : SqT K H d [.ref c, .int n]) (hc : SqL K H c (cs.map V.int)) : Dp K H (.ref d) (.tuple [dI cs, .int n]) := .tup hd (.cons (dp_I hc) (.cons (.int n) .nil))
theorem shaped_pair (cs : List Int) (n : Int) : SeqAt.shaped (.tuple [dI cs, .int n]) = true := by
  unfold SeqAt.shaped dI
  simp only [PyData.canLay0, PyData.canLayAll0, canLay_ints, PyData.depth, PyData.depthAll, depth_ints, Bool.true_and, Bool.and_true]
  decide
theorem eqv_pair (cs ds : List Int) (n m : Int) : PyData.eqv (.tuple [dI cs, .int n]) (.tuple [dI ds, .int m]) = (decide (cs = ds) && decide (n = m)) := by
  unfold dI
  simp only [PyData.eqv, PyData.eqvAll, eqvAll_ints, Bool.and_true]
  rfl
theorem ev_nePair {d : Addr} {cs ds : List Int} {n m : Int} (h1 : EvU ta σ H [.ref b, .int n]) (h2 : Ev tb σ H (.ref d)) (hb : SqL K H b (cs.map V.int)) (hd : SqT K H d [.ref c, .int m]) (hc : SqL K H c (ds.map V.int)) :
    Ev (tOp (rNeD K) ta tb) σ H (.bl (!(decide (cs = ds) && decide (n = m)))) := fun H1 e Q q => h1 H1 e _ fun p H2 _ e2 hp => h2 H2 (e.trans e2) _ fun H3 e3 =>
  have e03 := (e.trans e2).trans e3
  ⟨_, _, dp_pair (st_of (e3 _ _ hp)) (ex_l e03 hb), dp_pair (ex_t e03 hd) (ex_l e03 hc), shaped_pair _ _, shaped_pair _ _, by
    rw [eqv_pair]
    exact q H3 (e2.trans e3)⟩
theorem ev_notBl {b c : Bool} (h1 : Ev ta σ H (.bl b)) (h2 : Ev tb σ H (.bl c)) : Ev (tOp rNotB ta tb) σ H (.bl (!decide (b = c))) := fun H1 e Q q => h1 H1 e _ fun H2 e2 => h2 H2 (e.trans e2) _ fun H3 e3 => ⟨b, c, rfl, rfl, q H3 (e2.trans e3)⟩
theorem ev_isBl {b c : Bool} (h1 : Ev ta σ H (.bl b)) (h2 : Ev tb σ H (.bl c)) : Ev (tOp rIsB ta tb) σ H (.bl (decide (b = c))) := fun H1 e Q q => h1 H1 e _ fun H2 e2 => h2 H2 (e.trans e2) _ fun H3 e3 => ⟨b, c, rfl, rfl, q H3 (e2.trans e3)⟩
/-- x, y = core(..), a new list -/
theorem q_parCL {k1 k2 : Nat} {ys : List V} {cs : List Int} {n : Int} (h2 : EvC ta σ H cs n) (h : EvL tb σ H ys) (q : ∀ p d c H1, H p = none → Ex H H1 → H1 p = some (.lst ys) → H1 c = some (.lst (cs.map V.int)) → H1 d = some (.tup [.ref c, .int n]) → tz D ((σ.set k1 (some (.ref d))).set k2 (some (.ref p))) H1) :
    tSeq (tPar k1 k2 (tCons ta (tCons tb tNil))) tz D σ H := h2 H (Ex.refl H) _ fun d c H1 _ _ e1 h4 h5 => h H1 e1 _ fun p H2 hp e2 h3 => ⟨.ref d, .ref p, rfl, q p d c H2 (fresh_back e1 hp) (e1.trans e2) h3 (e2 _ _ h4) (e2 _ _ h5)⟩
/-- x = [a new list, a new list] -/
theorem q_asgLL {k : Nat} {xs ys : List V} (h : EvL ta σ H xs) (h2 : EvL tb σ H ys) (q : ∀ p r l H1, H p = none → H r = none → p ≠ r → l ≠ p → l ≠ r → Ex H H1 → H1 p = some (.lst xs) → H1 r = some (.lst ys) → H1 l = some (.lst [.ref p, .ref r]) → tz D (σ.set k (some (.ref l))) H1) :
    tSeq (tAsg (tLst (tCons ta (tCons tb tNil))) (gName k)) tz D σ H := h H (Ex.refl H) _ fun p H1 hp e1 h3 => h2 H1 e1 _ fun r H2 hr e2 h4 => ⟨Nat.le_of_ble_eq_true rfl, fun l hl => q p r l _ hp (fresh_back e1 hr) (ne_of_none h3 hr) (ne_of_none (e2 _ _ h3) hl).symm (ne_of_none h4 hl).symm ((e1.trans e2).trans (Ex.new hl)) (Ex.new hl _ _ (e2 _ _ h3)) (Ex.new hl _ _ h4) upd_same⟩
theorem due_true {R cs : List Int} (e : runM L hs R = some cs) (h : rimsH cs L = []) : dueM hs L R cs = true := by
  rw [due_some e, h]
  simp
theorem due_not {R cs ds : List Int} (e : runM L hs R = some cs) (h : cs ≠ ds) : dueM hs L R ds = false := by
  rw [due_some e, decide_eq_false h]
  rfl
theorem core_rims {h : List Int} (H : IsHeap h) (hL : 0 < L) : rimsH (coreOf h L) L = [] := (rims_none (coreOf_heap hL h) hL).mpr (core_core H hL).2
/-- for x in (a, b, ..), a tuple made for it -/
theorem s_forU {k : Nat} {vs : List V} (h : EvU tl σ H vs) (Pv : Hp → L2.St → Hp → Prop) (hE : ∀ H0 σ' H', Pv H0 σ' H' → Ex H0 H') (h0 : ∀ H1, Ex H H1 → Pv H1 σ H1)
    (hs : ∀ H0 x σ' H', x ∈ vs → Ex H H0 → Pv H0 σ' H' → tu { D with nx := Pv H0, ct := Pv H0, bk := D.nx } (σ'.set k (some x)) H') (hd : ∀ H0 σ' H', Ex H H0 → Pv H0 σ' H' → D.nx σ' H') : tFor (iTup K tl) (gName k) tu D σ H :=
  h H (Ex.refl H) _ fun p H1 _ e hp => ⟨p, rfl, ⟨_, .inl (.inl hp)⟩, for_tup (xs := vs) (fun _ => Pv H1) (h0 H1 e) (fun i σ' H' _ q => .inl (.inl (hE _ _ _ q _ _ hp))) (fun i x σ' H' hi q => hs H1 x σ' H' (List.mem_of_getElem? hi) e q) (fun σ' H' q => hd H1 σ' H' e q)⟩
theorem q_forU {k : Nat} {vs : List V} (h : EvU tl σ H vs) (Pv : Hp → L2.St → Hp → Prop) (hE : ∀ H0 σ' H', Pv H0 σ' H' → Ex H0 H') (h0 : ∀ H1, Ex H H1 → Pv H1 σ H1)
    (hs : ∀ H0 x σ' H', x ∈ vs → Ex H H0 → Pv H0 σ' H' → tu { D with nx := Pv H0, ct := Pv H0, bk := tz D } (σ'.set k (some x)) H') (hd : ∀ H0 σ' H', Ex H H0 → Pv H0 σ' H' → tz D σ' H') : tSeq (tFor (iTup K tl) (gName k) tu) tz D σ H :=
  s_forU (D := { D with nx := tz D }) h Pv hE h0 hs hd
theorem el_lastI {k : Nat} (hk : 0 < k) (h : EvL te σ H (ns.map V.int)) (hv : Ev tb σ H (.int (-(k : Int)))) : EvL (tSl (rSlL K) te (tPart tb) tNoPart) σ H ((ns.drop (ns.length - k)).map V.int) :=
  el_slN h (eo_some hv) eo_none (by rw [cut_last _ _ hk, List.map_drop, List.length_map])
end
theorem small_log {L : Int} (h0 : 0 ≤ L) (h : L < 1000000) : L.natAbs.log2 < 9000 := by
  have : L.natAbs < 2 ^ 20 := by
    have e : (2 : Nat) ^ 20 = 1048576 := by decide
    omega
  have := log_lt (by decide) this
  omega
end Rh
namespace Rh
open PySem PySem.Spec PyProof.Rows L2 Evl
theorem rep_flat (n : Nat) (x : Int) : (List.replicate n [V.int x]).flatten = (List.replicate n x).map V.int := by
  induction n with
  | zero => rfl
  | succ n ih =>
    rw [List.replicate_succ, List.replicate_succ, List.flatten_cons, ih, List.map_cons]
    rfl
end Rh
namespace Rh
open PySem PySem.Spec PyProof.Rows L2 Evl
theorem sum_le16 : ∀ {l : List Int}, (∀ x ∈ l, x ≤ 16) → l.sum ≤ 16 * (l.length : Int)
  | [], _ => by simp
  | x :: r, h => by
    have h1 := h x List.mem_cons_self
    have h2 := sum_le16 fun z hz => h z (List.mem_cons_of_mem _ hz)
    rw [List.sum_cons, List.length_cons]
    omega
structure Tiny (h : List Int) : Prop where
  heap : IsHeap h
  len : h.length ≤ 12
  row : ∀ x ∈ h, x ≤ 16
theorem Tiny.sub {h k : List Int} (t : Tiny h) (s : k.Sublist h) : Tiny k := ⟨⟨fun x hx => t.heap.pos x (s.subset hx), t.heap.falls.sublist s⟩, Nat.le_trans s.length_le t.len, fun x hx => t.row x (s.subset hx)⟩
theorem tiny_small (ns : List Int) (b : Int) : Tiny (smallM ns b) := ⟨(smallM_made ns b).heap, smallM_len ns b, fun x hx => (smallM_row ns b x hx).2⟩
theorem Tiny.rims {h : List Int} (t : Tiny h) {L : Int} (hL : 0 < L) : rimsIn h L ≤ 1000 := by
  have h1 := rims_le t.heap hL
  have h2 := sum_le16 t.row
  have h3 := t.len
  omega
theorem Tiny.few {h : List Int} (t : Tiny h) : IsHeap h ∧ h.length ≤ 80 := ⟨t.heap, by have := t.len; omega⟩
theorem due_end : dueM [2] 1 [0, 0] [] = true := by
  have b1 : behindOf [2] 1 (0 : Int).toNat = [1] := by
    unfold behindOf
    rw [heapOf_run]
    decide
  have b2 : behindOf [1] 1 (0 : Int).toNat = [] := by
    unfold behindOf
    rw [heapOf_run]
    decide
  have r1 : (0 : Int) ∈ rimsH [2] 1 := by decide
  have r2 : (0 : Int) ∈ rimsH [1] 1 := by decide
  have e : runM 1 [2] [0, 0] = some [] := by
    show (if (0 : Int) ∈ rimsH [2] 1 then runM 1 (behindOf [2] 1 (0 : Int).toNat) [0] else none) = _
    rw [if_pos r1, b1]
    show (if (0 : Int) ∈ rimsH [1] 1 then runM 1 (behindOf [1] 1 (0 : Int).toNat) [] else none) = _
    rw [if_pos r2, b2]
    rfl
  exact due_true e (by decide)
section
variable {K : PySem.W.Frag} {σ : L2.St} {H : Hp} {ta tb tc : TE} {a b : Addr} {ns hs : List Int} {L : Int} {E : XK}
theorem go_right4 (h1 : SqL K H a (ns.map V.int)) (h2 : SqL K H b (hs.map V.int)) (hp : Len ns ∧ (IsHeap hs ∧ hs.length ≤ 80) ∧ (1 ≤ L ∧ L ≤ 1000) ∧ rimsIn hs L ≤ 1000) : SpV (sp_l_right4 K) [.ref a, .ref b, .int L] H (.bl true) := fun _ e Q q E => ⟨a, b, ns, hs, L, rfl, ex_l e h1, ex_l e h2, hp, q⟩
theorem ev_right4N (h1 : Ev ta σ H (.ref a)) (h2 : EvL tb σ H (hs.map V.int)) (h3 : Ev tc σ H (.int L)) (ha : SqL K H a (ns.map V.int)) (hp : Len ns ∧ (IsHeap hs ∧ hs.length ≤ 80) ∧ (1 ≤ L ∧ L ≤ 1000) ∧ rimsIn hs L ≤ 1000) :
    Ev (tCall (sp_l_right4 K) [] E (tCons ta (tCons tb (tCons tc tNil)))) σ H (.bl true) := fun H1 e Q q => h1 H1 e _ fun H2 e2 => h2 H2 (e.trans e2) _ fun p H3 _ e3 q3 => h3 H3 ((e.trans e2).trans e3) _ fun H4 e4 =>
  ⟨a, p, ns, hs, L, rfl, ex_l (((e.trans e2).trans e3).trans e4) ha, sq_map (e4 _ _ q3), hp, fun H5 e5 => q H5 (((e2.trans e3).trans e4).trans e5)⟩
end
end Rh
namespace Rh
open PySem PySem.Spec PyProof.Rows L2 Evl
/-- where a number stands at the top -/
def Num (K : PySem.W.Frag) (x : Str) (n : Int) : Prop := ∃ t : Tok, PySem.W.nsIn K mainGlobals x = some (some (.int n t))
theorem num_mk {K : PySem.W.Frag} {x : Str} {n : Int} {t : Tok} (a : PySem.W.nsIn K mainGlobals x = some (some (.int n t))) : Num K x n := ⟨t, a⟩
/-- what the answers' class is -/
def GoneF (K : PySem.W.Frag) (s1 s2 : Stmt) : Prop := ∃ (C CA f1 f2 : Addr) (oc1 : Value) (od1 : Option Addr) (kV1 doc1 pm1 : Value) (an1 : Option Addr) (cd1 ct1 : Value) (sl1 : Array (Option Value)) (oc2 : Value) (od2 : Option Addr) (kV2 doc2 pm2 : Value) (an2 : Option Addr) (cd2 ct2 : Value) (sl2 : Array (Option Value)),
  PySem.W.nsIn K mainGlobals "Gone" = some (some (.ref C)) ∧ PySem.W.nsIn K mainGlobals "Answer" = some (some (.ref CA)) ∧ Meth K C "shows" f2 ∧ Mk K C f1 ∧ Cls K C ∧ NoAttr K C "rows" ∧ NoAttr K C "left" ∧
  K.lookup f1 = some ⟨oc1, od1, .func (PySem.W.fnOf "__init__" "Gone.__init__" (defArgs s1) (defBody s1) (defScope s1) .none kV1 doc1 pm1 an1 cd1 ct1), sl1⟩ ∧ PySem.W.codeIn K cd1 "Gone.__init__" = true ∧ PySem.W.keepIn K (.ref f1) = true ∧
  K.lookup f2 = some ⟨oc2, od2, .func (PySem.W.fnOf "shows" "Gone.shows" (defArgs s2) (defBody s2) (defScope s2) .none kV2 doc2 pm2 an2 cd2 ct2), sl2⟩ ∧ PySem.W.codeIn K cd2 "Gone.shows" = true ∧
  PySem.W.findIn K (.ref C) "__class__" = some (some (.builtin "object.__class__")) ∧ PySem.W.specialIn K (.builtin "object.__class__") "__get__" = some (some (.builtin "getset_descriptor.__get__")) ∧ PySem.W.takesIn K (.builtin "object.__class__") = some true ∧
  PySem.W.mroIn K C (.type "object") = some true ∧ PySem.W.kitOne K (.ref C) (.ref CA) = some true
theorem goneF_mk {K : PySem.W.Frag} {s1 s2 : Stmt} {C CA f1 f2 : Addr} {oc1 : Value} {od1 : Option Addr} {kV1 doc1 pm1 : Value} {an1 : Option Addr} {cd1 ct1 : Value} {sl1 : Array (Option Value)} {oc2 : Value} {od2 : Option Addr} {kV2 doc2 pm2 : Value} {an2 : Option Addr} {cd2 ct2 : Value} {sl2 : Array (Option Value)}
    (aC : PySem.W.nsIn K mainGlobals "Gone" = some (some (.ref C))) (aA : PySem.W.nsIn K mainGlobals "Answer" = some (some (.ref CA)))
    (a1 : PySem.W.findIn K (.ref C) "__init__" = some (some (.ref f1))) (i1 : PySem.W.isFn K (.ref f1) = true) (l1 : K.lookup f1 = some ⟨oc1, od1, .func (PySem.W.fnOf "__init__" "Gone.__init__" (defArgs s1) (defBody s1) (defScope s1) .none kV1 doc1 pm1 an1 cd1 ct1), sl1⟩) (c1 : PySem.W.codeIn K cd1 "Gone.__init__" = true) (k1 : PySem.W.keepIn K (.ref f1) = true)
    (a2 : PySem.W.findIn K (.ref C) "shows" = some (some (.ref f2))) (i2 : PySem.W.isFn K (.ref f2) = true) (l2 : K.lookup f2 = some ⟨oc2, od2, .func (PySem.W.fnOf "shows" "Gone.shows" (defArgs s2) (defBody s2) (defScope s2) .none kV2 doc2 pm2 an2 cd2 ct2), sl2⟩) (c2 : PySem.W.codeIn K cd2 "Gone.shows" = true) (k2 : PySem.W.keepIn K (.ref f2) = true)
    (pg : PySem.W.plainGet K C Str.empty = true) (hd : PySem.W.hasDictIn K C = true) (po : PySem.W.plainOver K C = true) (sa : PySem.W.findIn K (.ref C) "__setattr__" = some (some (.builtin "object.__setattr__"))) (mk : PySem.W.makesIn K C = true) (kc : PySem.W.keepIn K (.ref C) = true)
    (nR : PySem.W.findIn K (.ref C) "rows" = some none) (nL : PySem.W.findIn K (.ref C) "left" = some none)
    (hc : PySem.W.findIn K (.ref C) "__class__" = some (some (.builtin "object.__class__"))) (hg : PySem.W.specialIn K (.builtin "object.__class__") "__get__" = some (some (.builtin "getset_descriptor.__get__"))) (ht : PySem.W.takesIn K (.builtin "object.__class__") = some true)
    (hm : PySem.W.mroIn K C (.type "object") = some true) (iA : PySem.W.kitOne K (.ref C) (.ref CA) = some true) : GoneF K s1 s2 :=
  ⟨C, CA, f1, f2, oc1, od1, kV1, doc1, pm1, an1, cd1, ct1, sl1, oc2, od2, kV2, doc2, pm2, an2, cd2, ct2, sl2, aC, aA, ⟨a2, i2, k2⟩, ⟨mk, a1, i1, kc⟩, ⟨pg, hd, po, sa⟩, nR, nL, l1, c1, k1, l2, c2, hc, hg, ht, hm, iA⟩
end Rh

namespace Rh
open PySem PySem.Spec PyProof.Rows L2 Evl

def tSlS (K : PySem.W.Frag) (te : TE) (tl ts : TO) : TE := fun σ H Q => te σ H fun x H1 => tl σ H1 fun l H2 => ts σ H2 fun st H3 => ∃ (a : Addr) (xs : List V), x = .ref a ∧ SqL K H3 a xs ∧ st ≠ some 0 ∧
  ∀ ys : List V, (∀ y ∈ ys, y ∈ xs) → ys.length ≤ xs.length → ∀ p, H3 p = none → Q (.ref p) (upd H3 p (.lst ys))
theorem vals_pick {xs : List V} {us : List Value} (r : Vals xs us) : ∀ R : List Nat, Vals (R.filterMap (xs[·]?)) (R.filterMap (us[·]?))
  | [] => .nil
  | k :: R => by
    rw [List.filterMap_cons, List.filterMap_cons]
    cases e : xs[k]? with
    | none =>
      rw [r.none_of e]
      exact vals_pick r R
    | some x =>
      obtain ⟨u, h1, h2⟩ := r.get e
      rw [h1]
      exact .cons h2 (vals_pick r R)
theorem pe_sliceS {X : Cx} {e lo st : Expr} {te tl ts : TE} {pos p2 : Pos} (he : PE X e te) (hl : PE X lo tl) (hs : PE X st ts) : PE X (.Subscript e (.Slice (some lo) none (some st) p2) pos) (tSlS X.K te (tPart tl) (tPart ts)) := by
  refine ⟨fun pins s σ H Q I h => ?_⟩
  refine Subscript_ (thn (he.run pins s σ H _ I h) fun v s1 ⟨x, H1, I1, r1, q1⟩ => ?_)
  refine wpAny_Slice (thn ((po_some hl).run pins s1 σ H1 _ I1 q1) fun vl s2 ⟨l, H2, I2, pl, q2⟩ => ?_)
  rw [evalPart_none]
  refine wpAny_pure (thn ((po_some hs).run pins s2 σ H2 _ I2 q2) fun vs s3 ⟨u, H3, I3, pu, q3⟩ => ?_)
  have I4 : Inv X pins σ H3 { s3 with heap := s3.heap.push { cls := .type "slice", data := .fields #[vl, .none, vs] } } := I3.kept (t' := s3.toks) fun b ob q => Heap.get?_push_of_some _ q
  obtain ⟨a, xs, rfl, hx, h0, q⟩ := q3
  cases r1
  obtain ⟨its, r, ht, hz⟩ := I4.list hx
  have hlen := r.length
  have hg : wpAny (model X.prog X.w) X.A (getItem (.ref a) (.ref s3.heap.objs.size)) (EP X pins σ Q) X.xe { s3 with heap := s3.heap.push { cls := .type "slice", data := .fields #[vl, .none, vs] } } := by
    refine wpAny_getItem_list_slice ht.isList (Heap.IsSliceOf.new ..) pl .none pu h0 ?_ (by rw [List.size_toArray] <;> omega)
    have hp := slicePick_size_le its.toArray l none u
    have e0 : ∃ R : List Nat, slicePick its.toArray l none u = (R.filterMap (its[·]?)).toArray := ⟨_, by
      unfold slicePick
      simp only [List.getElem?_toArray]
      rfl⟩
    obtain ⟨R, eR⟩ := e0
    rw [eR] at hp ⊢
    have rv := vals_pick r R
    have hl2 := rv.length
    rw [List.size_toArray, List.size_toArray] at hp
    refine ⟨.ref _, _, I4.laid (t' := s3.toks) (o := .lst (R.filterMap (xs[·]?))) (fun b ob q => Heap.get?_push_of_some _ q) (Nat.le_refl _) ?_, rfl, q (R.filterMap (xs[·]?)) (fun y hy => ?_) (by omega) _ (I4.hok.fresh (Nat.le_refl _))⟩
    · exact ⟨Nat.le_trans (by omega) hz, _, 0, rv, Heap.get?_push_size _ rfl⟩
    · obtain ⟨k, _, hk⟩ := List.mem_filterMap.mp hy
      exact List.mem_of_getElem? hk
  show wpAny (model X.prog X.w) X.A (subscriptTail e (.Slice (some lo) none (some st) p2) (.ref a) (.ref s3.heap.objs.size)) (EP X pins σ Q) X.xe { s3 with heap := s3.heap.push { cls := .type "slice", data := .fields #[vl, .none, vs] } }
  exact tail_any (ops := [.ref a, .ref s3.heap.objs.size]) ht.isList.typeIs slot_list_getitem.lookup hg (by with_unfolding_all rfl)
end Rh
namespace Rh
open PySem PySem.Spec PyProof.Rows L2 Evl
inductive LL (H : Hp) : List Addr → List (List Int) → Prop
  | nil : LL H [] []
  | cons {b : Addr} {p : List Int} {bs : List Addr} {ps : List (List Int)} : H b = some (.lst (p.map V.int)) → LL H bs ps → LL H (b :: bs) (p :: ps)
section
variable {K : PySem.W.Frag} {H H' : Hp} {bs : List Addr} {ps qs : List (List Int)}
theorem LL.len (l : LL H bs ps) : bs.length = ps.length := by
  induction l with
  | nil => rfl
  | cons _ _ ih => rw [List.length_cons, List.length_cons, ih]
theorem LL.mono (l : LL H bs ps) (e : ∀ b ∈ bs, ∀ o, H b = some o → H' b = some o) : LL H' bs ps := by
  induction l with
  | nil => exact .nil
  | cons h _ ih => exact .cons (e _ List.mem_cons_self _ h) (ih fun b hb => e b (List.mem_cons_of_mem _ hb))
theorem LL.ex (l : LL H bs ps) (e : Ex H H') : LL H' bs ps := l.mono fun b _ o h => e b o h
theorem LL.get (l : LL H bs ps) {j : Nat} {b : Addr} (hb : bs[j]? = some b) : ∃ p, ps[j]? = some p ∧ H b = some (.lst (p.map V.int)) := by
  induction l generalizing j with
  | nil => cases hb
  | @cons b0 p0 bs0 ps0 h _ ih =>
    cases j with
    | zero =>
      cases hb
      exact ⟨p0, rfl, h⟩
    | succ j =>
      rw [List.getElem?_cons_succ] at hb
      obtain ⟨p, h1, h2⟩ := ih hb
      exact ⟨p, by rw [List.getElem?_cons_succ]; exact h1, h2⟩
theorem LL.at (l : LL H bs ps) {j : Nat} {p : List Int} (hp : ps[j]? = some p) : ∃ b, bs[j]? = some b ∧ H b = some (.lst (p.map V.int)) := by
  have hj := (List.getElem?_eq_some_iff.mp hp).1
  have hj2 : j < bs.length := by rw [l.len]; exact hj
  have hb : bs[j]? = some bs[j] := List.getElem?_eq_getElem hj2
  obtain ⟨p', h1, h2⟩ := l.get hb
  rw [hp] at h1
  cases h1
  exact ⟨_, hb, h2⟩
theorem LL.snoc (l : LL H bs ps) {b : Addr} {p : List Int} (h : H b = some (.lst (p.map V.int))) : LL H (bs ++ [b]) (ps ++ [p]) := by
  induction l with
  | nil => exact .cons h .nil
  | cons h1 _ ih => exact .cons h1 ih
theorem LL.drop (l : LL H bs ps) : ∀ k, LL H (bs.drop k) (ps.drop k) := by
  induction l with
  | nil => intro k; rw [List.drop_nil, List.drop_nil]; exact .nil
  | cons h1 l1 ih =>
    intro k
    cases k with
    | zero => exact .cons h1 l1
    | succ k => exact ih k
theorem LL.std (l : LL H bs ps) : ∀ b ∈ bs, ∃ o, H b = some o := by
  induction l with
  | nil => intro b hb; cases hb
  | cons h1 _ ih =>
    intro b hb
    rcases List.mem_cons.mp hb with rfl | hb
    · exact ⟨_, h1⟩
    · exact ih b hb
theorem LL.mem (l : LL H bs ps) {b : Addr} (hb : b ∈ bs) : ∃ p ∈ ps, H b = some (.lst (p.map V.int)) := by
  obtain ⟨j, hj⟩ := List.getElem?_of_mem hb
  obtain ⟨p, h1, h2⟩ := l.get hj
  exact ⟨p, List.mem_of_getElem? h1, h2⟩
/-- one of them changed -/
theorem LL.put (l : LL H bs ps) (nd : bs.Nodup) {j : Nat} {b : Addr} {q : List Int} (hb : bs[j]? = some b) : LL (upd H b (.lst (q.map V.int))) bs (ps.set j q) := by
  induction l generalizing j with
  | nil => cases hb
  | @cons b0 p0 bs0 ps0 h l0 ih =>
    obtain ⟨n1, n2⟩ := List.nodup_cons.mp nd
    cases j with
    | zero =>
      cases hb
      refine .cons upd_same (l0.mono fun c hc o ho => ?_)
      rw [upd_ne fun z => n1 (by rw [← z]; exact hc)]
      exact ho
    | succ j =>
      rw [List.getElem?_cons_succ] at hb
      refine .cons ?_ (ih n2 hb)
      rw [upd_ne fun z => n1 (by rw [z]; exact List.mem_of_getElem? hb)]
      exact h
/-- another one in its place -/
theorem LL.swap (l : LL H bs ps) {j : Nat} {b : Addr} {q : List Int} (h : H b = some (.lst (q.map V.int))) : LL H (bs.set j b) (ps.set j q) := by
  induction l generalizing j with
  | nil => exact .nil
  | cons h0 l0 ih =>
    cases j with
    | zero => exact .cons h l0
    | succ j => exact .cons h0 ih
def rs (bs : List Addr) : List V := bs.map V.ref
theorem rs_len : (rs bs).length = bs.length := by simp [rs]
theorem rs_at {j : Nat} {x : V} (h : (rs bs)[j]? = some x) : ∃ b, bs[j]? = some b ∧ x = .ref b := by
  unfold rs at h
  rw [List.getElem?_map] at h
  obtain ⟨b, h1, h2⟩ := Option.map_eq_some_iff.mp h
  exact ⟨b, h1, h2.symm⟩
theorem atI_rs {j : Nat} {b : Addr} (h : bs[j]? = some b) : atI (rs bs) (j : Int) = some (.ref b) := atI_nat (by unfold rs; rw [List.getElem?_map, h]; rfl)
theorem dpAll_LL (l : LL H bs ps) : DpAll K H (rs bs) (ps.map dI) := by
  unfold rs
  induction l with
  | nil => exact .nil
  | cons h _ ih => exact .cons (dp_I (sq_map h)) ih
theorem canLay_LL : ∀ ps : List (List Int), PyData.canLayAll0 (ps.map dI) = true
  | [] => by simp only [List.map_nil, PyData.canLayAll0]
  | p :: r => by
    rw [List.map_cons]
    unfold dI
    simp only [PyData.canLayAll0, PyData.canLay0, canLay_ints, Bool.true_and]
    exact canLay_LL r
theorem depth_LL : ∀ ps : List (List Int), PyData.depthAll (ps.map dI) ≤ 1
  | [] => by simp only [List.map_nil, PyData.depthAll]; decide
  | p :: r => by
    have ih := depth_LL r
    rw [List.map_cons]
    have e : PyData.depth (dI p) ≤ 1 := by
      unfold dI
      simp only [PyData.depth, depth_ints]
      decide
    simp only [PyData.depthAll]
    exact Nat.max_le.mpr ⟨e, ih⟩
theorem shaped_LL (ps : List (List Int)) : SeqAt.shaped (.list (ps.map dI)) = true := by
  unfold SeqAt.shaped
  have h := depth_LL ps
  simp only [PyData.canLay0, canLay_LL, PyData.depth, Bool.true_and]
  exact decide_eq_true (by omega)
theorem eqvAll_LL : ∀ ps qs : List (List Int), PyData.eqvAll (ps.map dI) (qs.map dI) = decide (ps = qs)
  | [], [] => by simp [PyData.eqvAll]
  | [], m :: s => by simp [PyData.eqvAll]
  | n :: r, [] => by simp [PyData.eqvAll]
  | n :: r, m :: s => by
    rw [List.map_cons, List.map_cons]
    simp only [PyData.eqvAll, eqv_I, eqvAll_LL r s]
    rw [Bool.eq_iff_iff]
    simp
theorem eqv_LL (ps qs : List (List Int)) : PyData.eqv (.list (ps.map dI)) (.list (qs.map dI)) = decide (ps = qs) := by
  simp only [PyData.eqv]
  exact eqvAll_LL ps qs
/-- a list of lists that stands -/
def SL (K : PySem.W.Frag) (H : Hp) (a : Addr) (ps : List (List Int)) : Prop := ∃ bs, SqL K H a (rs bs) ∧ LL H bs ps
theorem SL.ex {a : Addr} (s : SL K H a ps) (e : Ex H H') : SL K H' a ps := let ⟨bs, h1, h2⟩ := s; ⟨bs, ex_l e h1, h2.ex e⟩
theorem sl_of {a : Addr} (h : H a = some (.lst (rs bs))) (l : LL H bs ps) : SL K H a ps := ⟨bs, sq_of h, l⟩
theorem dp_SL {a : Addr} (s : SL K H a ps) : Dp K H (.ref a) (.list (ps.map dI)) := let ⟨_, h1, h2⟩ := s; .lst h1 (dpAll_LL h2)
/-- a new list of new lists -/
def NewLL (H1 H2 : Hp) (p : Addr) (bs : List Addr) (ps : List (List Int)) : Prop := H1 p = none ∧ (∀ b ∈ bs, H1 b = none) ∧ bs.Nodup ∧ p ∉ bs ∧ Ex H1 H2 ∧ H2 p = some (.lst (rs bs)) ∧ LL H2 bs ps
theorem NewLL.back {H0 H1 H2 : Hp} {p : Addr} (n : NewLL H1 H2 p bs ps) (e : Ex H0 H1) : NewLL H0 H2 p bs ps := let ⟨a, b, c, d, f, g, h⟩ := n; ⟨fresh_back e a, fun x hx => fresh_back e (b x hx), c, d, e.trans f, g, h⟩
theorem NewLL.sl {H1 H2 : Hp} {p : Addr} (n : NewLL H1 H2 p bs ps) : SL K H2 p ps := sl_of n.2.2.2.2.2.1 n.2.2.2.2.2.2
def EvLL (te : TE) (σ : L2.St) (H : Hp) (ps : List (List Int)) : Prop := ∀ H1, Ex H H1 → ∀ Q : VK, (∀ p bs H2, NewLL H1 H2 p bs ps → Q (.ref p) H2) → te σ H1 Q
def RetLL (ps : List (List Int)) (H : Hp) (Q : VK) : Prop := ∀ p bs H2, NewLL H H2 p bs ps → Q (.ref p) H2
end
section
variable {K : PySem.W.Frag} {σ : L2.St} {H H' : Hp} {ta tb tc te tx tl : TE} {t u : TT} {x y z v : V} {i j L : Int} {a b c : Addr} {ns ms hs xs : List Int} {D : Ends} {tu tw tz : TS} {g : TG} {tg : TA} {E : XK} {bs cs : List Addr} {ps qs : List (List Int)}
theorem EvLL.mono (e : Ex H H') (h : EvLL te σ H ps) : EvLL te σ H' ps := fun H1 a Q q => h H1 (e.trans a) Q q
theorem rv_eqLL (ha : SL K H a ps) (hb : SL K H b qs) : RV (rEqD K) (.ref a) (.ref b) H (.bl (decide (ps = qs))) := fun H1 e Q q =>
  ⟨_, _, dp_SL (ha.ex e), dp_SL (hb.ex e), shaped_LL _, shaped_LL _, by rw [eqv_LL]; exact q H1 (Ex.refl H1)⟩
theorem rv_neLL (ha : SL K H a ps) (hb : SL K H b qs) : RV (rNeD K) (.ref a) (.ref b) H (.bl (!decide (ps = qs))) := fun H1 e Q q =>
  ⟨_, _, dp_SL (ha.ex e), dp_SL (hb.ex e), shaped_LL _, shaped_LL _, by rw [eqv_LL]; exact q H1 (Ex.refl H1)⟩
theorem ev_neSS (h1 : Ev ta σ H (.ref a)) (h2 : Ev tb σ H (.ref b)) (ha : SL K H a ps) (hb : SL K H b qs) : Ev (tOp (rNeD K) ta tb) σ H (.bl (!decide (ps = qs))) := ev_op h1 h2 (rv_neLL ha hb)
theorem ev_neNS (h1 : EvLL ta σ H ps) (h2 : Ev tb σ H (.ref b)) (hb : SL K H b qs) : Ev (tOp (rNeD K) ta tb) σ H (.bl (!decide (ps = qs))) := fun H1 e Q q => h1 H1 e _ fun p bs H2 n => h2 H2 (e.trans n.2.2.2.2.1) _ fun H3 e3 =>
  rv_neLL (n.sl.ex e3) (hb.ex ((e.trans n.2.2.2.2.1).trans e3)) H3 (Ex.refl H3) Q fun H4 e4 => q H4 ((n.2.2.2.2.1.trans e3).trans e4)
theorem ev_eqNS (h1 : EvLL ta σ H ps) (h2 : Ev tb σ H (.ref b)) (hb : SL K H b qs) : Ev (tOp (rEqD K) ta tb) σ H (.bl (decide (ps = qs))) := fun H1 e Q q => h1 H1 e _ fun p bs H2 n => h2 H2 (e.trans n.2.2.2.2.1) _ fun H3 e3 =>
  rv_eqLL (n.sl.ex e3) (hb.ex ((e.trans n.2.2.2.2.1).trans e3)) H3 (Ex.refl H3) Q fun H4 e4 => q H4 ((n.2.2.2.2.1.trans e3).trans e4)
theorem ev_eqLLN (h1 : EvLL ta σ H ps) (h2 : EvLL tb σ H qs) : Ev (tOp (rEqD K) ta tb) σ H (.bl (decide (ps = qs))) := fun H1 e Q q => h1 H1 e _ fun p bs H2 n => h2 H2 (e.trans n.2.2.2.2.1) _ fun p2 bs2 H3 n2 =>
  rv_eqLL (n.sl.ex n2.2.2.2.2.1) n2.sl H3 (Ex.refl H3) Q fun H4 e4 => q H4 ((n.2.2.2.2.1.trans n2.2.2.2.2.1).trans e4)
/-- of two new lists of what stands -/
theorem ev_neSl (h1 : EvL ta σ H (rs bs)) (h2 : EvL tb σ H (rs cs)) (l1 : LL H bs ps) (l2 : LL H cs qs) : Ev (tOp (rNeD K) ta tb) σ H (.bl (!decide (ps = qs))) := fun H1 e Q q => h1 H1 e _ fun p H2 _ e2 h3 => h2 H2 (e.trans e2) _ fun r H3 _ e3 h4 =>
  have e03 := (e.trans e2).trans e3
  rv_neLL (sl_of (e3 _ _ h3) (l1.ex e03)) (sl_of h4 (l2.ex e03)) H3 (Ex.refl H3) Q fun H4 e4 => q H4 ((e2.trans e3).trans e4)
theorem el_dropR (h : Ev te σ H (.ref a)) (hs : SqL K H a (rs bs)) (hk : Ev tb σ H (.int 1)) : EvL (tSl (rSlL K) te (tPart tb) tNoPart) σ H (rs (bs.drop 1)) :=
  el_as (el_sl h (eo_some hk) eo_none hs) (by unfold rs; have := cut_drop (bs.map V.ref) 1; rw [List.map_drop]; exact this)
/-- a list of two or three new lists -/
theorem ell_nil : EvLL (tLst tNil) σ H [] := fun H1 _ Q q => ⟨Nat.zero_le _, fun p hp => q p [] _ ⟨hp, (fun _ h => by cases h), List.nodup_nil, (fun h => by cases h), Ex.new hp, upd_same, .nil⟩⟩
theorem ell_two {p1 p2 : List Int} (h1 : EvL ta σ H (p1.map V.int)) (h2 : EvL tb σ H (p2.map V.int)) : EvLL (tLst (tCons ta (tCons tb tNil))) σ H [p1, p2] := fun H1 e Q q => h1 H1 e _ fun a H2 ha e2 h3 => h2 H2 (e.trans e2) _ fun b H3 hb e3 h4 => ⟨Nat.le_of_ble_eq_true rfl, fun p hp =>
  q p [a, b] _ ⟨fresh_back (e2.trans e3) hp, fun x hx => by
    simp only [List.mem_cons, List.not_mem_nil, or_false] at hx
    rcases hx with rfl | rfl
    · exact ha
    · exact fresh_back e2 hb, List.nodup_cons.mpr ⟨by simpa using ne_of_none h3 hb, List.nodup_cons.mpr ⟨(fun h => by cases h), List.nodup_nil⟩⟩, by
    simp only [List.mem_cons, List.not_mem_nil, or_false, not_or]
    exact ⟨(ne_of_none (e3 _ _ h3) hp).symm, (ne_of_none h4 hp).symm⟩, (e2.trans e3).trans (Ex.new hp), upd_same, .cons (Ex.new hp _ _ (e3 _ _ h3)) (.cons (Ex.new hp _ _ h4) .nil)⟩⟩
theorem ell_three {p1 p2 p3 : List Int} (h1 : EvL ta σ H (p1.map V.int)) (h2 : EvL tb σ H (p2.map V.int)) (h5 : EvL tc σ H (p3.map V.int)) : EvLL (tLst (tCons ta (tCons tb (tCons tc tNil)))) σ H [p1, p2, p3] := fun H1 e Q q => h1 H1 e _ fun a H2 ha e2 h3 => h2 H2 (e.trans e2) _ fun b H3 hb e3 h4 => h5 H3 ((e.trans e2).trans e3) _ fun c H4 hc e4 h6 => ⟨Nat.le_of_ble_eq_true rfl, fun p hp =>
  q p [a, b, c] _ ⟨fresh_back ((e2.trans e3).trans e4) hp, fun x hx => by
    simp only [List.mem_cons, List.not_mem_nil, or_false] at hx
    rcases hx with rfl | rfl | rfl
    · exact ha
    · exact fresh_back e2 hb
    · exact fresh_back (e2.trans e3) hc, List.nodup_cons.mpr ⟨by
      simp only [List.mem_cons, List.not_mem_nil, or_false, not_or]
      exact ⟨ne_of_none h3 hb, ne_of_none (e3 _ _ h3) hc⟩, List.nodup_cons.mpr ⟨by simpa using ne_of_none h4 hc, List.nodup_cons.mpr ⟨(fun h => by cases h), List.nodup_nil⟩⟩⟩, by
    simp only [List.mem_cons, List.not_mem_nil, or_false, not_or]
    exact ⟨(ne_of_none (e4 _ _ (e3 _ _ h3)) hp).symm, (ne_of_none (e4 _ _ h4) hp).symm, (ne_of_none h6 hp).symm⟩, ((e2.trans e3).trans e4).trans (Ex.new hp), upd_same, .cons (Ex.new hp _ _ (e4 _ _ (e3 _ _ h3))) (.cons (Ex.new hp _ _ (e4 _ _ h4)) (.cons (Ex.new hp _ _ h6) .nil))⟩⟩

def CgL (H : Hp) (Dl : Addr) (ps : List (List Int)) (H' : Hp) : Prop := ∃ bs, NewLL H H' Dl bs ps
theorem CgL.start {Dl : Addr} (h : H Dl = none) : CgL H Dl [] (upd H Dl (.lst [])) := ⟨[], h, (fun _ h => by cases h), List.nodup_nil, (fun h => by cases h), Ex.new h, upd_same, .nil⟩
theorem cgl_turn {σ2 : L2.St} {Dl : Addr} {p : List Int} (n : CgL H Dl ps H') (hz : ps.length < 100000) (he : EvL te σ2 H' (p.map V.int)) :
    tYes σ2 H' fun b H3 => if b = true then te σ2 H3 fun y H4 => ∃ acc, H4 Dl = some (.lst acc) ∧ acc.length < sizeLine ∧ CgL H Dl (ps ++ [p]) (upd H4 Dl (.lst (acc ++ [y]))) else CgL H Dl (ps ++ [p]) H3 := by
  obtain ⟨bs, n1, n2, n3, n4, n5, n6, n7⟩ := n
  show te σ2 H' fun y H4 => ∃ acc, H4 Dl = some (.lst acc) ∧ acc.length < sizeLine ∧ CgL H Dl (ps ++ [p]) (upd H4 Dl (.lst (acc ++ [y])))
  refine he H' (Ex.refl H') _ fun q H4 hq e4 h4 => ⟨rs bs, e4 _ _ n6, sz_lt (by rw [rs_len, n7.len]; exact hz), bs ++ [q], n1, ?_, ?_, ?_, (n5.trans e4).mut n1, ?_, ?_⟩
  · intro b hb
    rcases List.mem_append.mp hb with hb | hb
    · exact n2 b hb
    · have : b = q := by simpa using hb
      rw [this]
      exact fresh_back n5 hq
  · rw [List.nodup_append]
    refine ⟨n3, by simp, fun a ha b hb e => ?_⟩
    have : b = q := by simpa using hb
    obtain ⟨o, ho⟩ := n7.std a ha
    rw [e, this, hq] at ho
    cases ho
  · intro h
    rcases List.mem_append.mp h with h | h
    · exact n4 h
    · have : Dl = q := by simpa using h
      rw [this] at n6
      rw [hq] at n6
      cases n6
  · rw [upd_same]
    unfold rs
    rw [List.map_append]
    rfl
  · refine ((n7.ex e4).snoc h4).mono fun b hb o ho => ?_
    rw [upd_ne fun z => ?_]
    · exact ho
    · rw [z] at hb
      rcases List.mem_append.mp hb with hb | hb
      · exact n4 hb
      · have : Dl = q := by simpa using hb
        rw [this] at n6
        rw [hq] at n6
        cases n6
/-- over range(n) -/
theorem ell_cR {k : Nat} {vs : List Nat} {hi : Int} (f : Nat → List Int) (h : EvA tg σ H [.int hi]) (h1 : -50000 ≤ hi ∧ hi ≤ 50000) (hw : ∀ x, wipe ((wipe σ vs).set k (some x)) vs = wipe σ vs)
    (he : ∀ i : Nat, (i : Int) < hi → EvL te ((wipe σ vs).set k (some (.int (i : Int)))) H ((f i).map V.int)) : EvLL (tLc (iRng1 tg) (gName k) tYes te vs) σ H ((List.range hi.toNat).map f) := fun H0 e Q q => h H0 e _ fun H1 e1 => ⟨hi, rfl, by omega, by omega, fun Dl hD =>
  lc_range (lo := 0) (n := hi.toNat) (fun i H' => CgL H1 Dl (((List.range hi.toNat).take i).map f) H') (CgL.start hD) (fun i H' hi' p => ⟨hw _, by
    have e0 : (0 : Int) + (i : Int) = (i : Int) := Int.zero_add _
    rw [e0]
    have e2 : ((List.range hi.toNat).take (i + 1)).map f = ((List.range hi.toNat).take i).map f ++ [f i] := by
      rw [List.take_add_one, range_at hi', List.map_append]
      rfl
    rw [e2]
    have hex : Ex H1 H' := p.choose_spec.2.2.2.2.1
    exact cgl_turn p (by rw [List.length_map, List.length_take, List.length_range]; omega) ((he i (by omega)).mono ((e.trans e1).trans hex))⟩) (fun H' p => by
    have hl : (List.range hi.toNat).take hi.toNat = List.range hi.toNat := List.take_of_length_le (by rw [List.length_range]; exact Nat.le_refl _)
    rw [hl] at p
    obtain ⟨bs, n⟩ := p
    exact q Dl bs H' (n.back e1))⟩
/-- over a list of lists -/
theorem ell_cS {k : Nat} {vs : List Nat} (f : List Int → List Int) (h : Ev tl σ H (.ref a)) (hx : SL K H a ps) (hz : ps.length ≤ 50000) (hw : ∀ x, wipe ((wipe σ vs).set k (some x)) vs = wipe σ vs)
    (he : ∀ b p, p ∈ ps → H b = some (.lst (p.map V.int)) → EvL te ((wipe σ vs).set k (some (.ref b))) H ((f p).map V.int)) : EvLL (tLc (iList K tl) (gName k) tYes te vs) σ H (ps.map f) := fun H0 e Q q => h H0 e _ fun H1 e1 => by
  obtain ⟨bs, h1, h2⟩ := hx
  have e01 := e.trans e1
  have hbl := h2.len
  refine ⟨a, rfl, ⟨rs bs, ex_l e01 h1⟩, fun Dl hD => lc_list (xs := rs bs) (fun i H' => CgL H1 Dl ((ps.take i).map f) H') (CgL.start hD) (fun i H' _ p => ex_l (e01.trans p.choose_spec.2.2.2.2.1) h1) (fun i x H' hi p => ⟨hw x, ?_⟩) (fun H' p => ?_)⟩
  · obtain ⟨b, hb, rfl⟩ := rs_at hi
    obtain ⟨p0, hp0, hbo⟩ := h2.get hb
    have e2 : (ps.take (i + 1)).map f = (ps.take i).map f ++ [f p0] := by
      rw [List.take_add_one, hp0, List.map_append]
      rfl
    rw [e2]
    have hex : Ex H1 H' := p.choose_spec.2.2.2.2.1
    exact cgl_turn p (by rw [List.length_map, List.length_take]; omega) ((he b p0 (List.mem_of_getElem? hp0) hbo).mono (e01.trans hex))
  · rw [rs_len, hbl, List.take_length] at p
    obtain ⟨bs, n⟩ := p
    exact q Dl bs H' (n.back e1)
/-- a list of other things, over a list of lists -/
theorem el_cS {β : Type} {k : Nat} {vs : List Nat} (enc : β → V) (f : List Int → β) (h : Ev tl σ H (.ref a)) (hx : SL K H a ps) (hz : ps.length ≤ 50000) (hw : ∀ x, wipe ((wipe σ vs).set k (some x)) vs = wipe σ vs)
    (he : ∀ b p, p ∈ ps → H b = some (.lst (p.map V.int)) → Ev te ((wipe σ vs).set k (some (.ref b))) H (enc (f p))) : EvL (tLc (iList K tl) (gName k) tYes te vs) σ H ((ps.map f).map enc) := fun H0 e Q q => h H0 e _ fun H1 e1 => by
  obtain ⟨bs, h1, h2⟩ := hx
  have e01 := e.trans e1
  have hbl := h2.len
  refine ⟨a, rfl, ⟨rs bs, ex_l e01 h1⟩, fun Dl hD => lc_list (xs := rs bs) (fun i H' => Cg H1 Dl (((ps.take i).map f).map enc) H') (Cg.start hD) (fun i H' _ p => ex_l (e01.trans p.2.1) h1) (fun i x H' hi p => ⟨hw x, ?_⟩) (fun H' p => ?_)⟩
  · obtain ⟨b, hb, rfl⟩ := rs_at hi
    obtain ⟨p0, hp0, hbo⟩ := h2.get hb
    have e2 : ((ps.take (i + 1)).map f).map enc = ((ps.take i).map f).map enc ++ (some (enc (f p0))).toList := by
      rw [List.take_add_one, hp0, List.map_append, List.map_append]
      rfl
    rw [e2]
    exact cg_turn p (by rw [List.length_map, List.length_map, List.length_take]; omega) et_yes fun y hy => by
      cases hy
      exact (he b p0 (List.mem_of_getElem? hp0) hbo).mono (e01.trans p.2.1)
  · rw [rs_len, hbl, List.take_length] at p
    exact q Dl H' (fresh_back e1 p.1) (e1.trans p.2.1) p.2.2
/-- for i, x in enumerate(xs), xs of any kind -/
theorem q_forEX {k1 k2 : Nat} {xs : List V} (h : Ev tl σ H (.ref a)) (hx : SqL K H a xs) (Pv : Nat → L2.St → Hp → Prop) (h0 : ∀ H1, Ex H H1 → Pv 0 σ H1) (hl : ∀ i σ' H', i ≤ xs.length → Pv i σ' H' → SqL K H' a xs)
    (hs : ∀ i x T σ' H', xs[i]? = some x → Pv i σ' H' → H' T = none → tu { D with nx := Pv (i + 1), ct := Pv (i + 1), bk := tz D } ((σ'.set k1 (some (.int (i : Nat)))).set k2 (some x)) (upd H' T (.tup [.int (i : Nat), x]))) (hd : ∀ σ' H', Pv xs.length σ' H' → tz D σ' H') :
    tSeq (tFor (iEnum K (tCons tl tNil)) (g2 K k1 k2) tu) tz D σ H :=
  h H (Ex.refl H) _ fun H1 e => ⟨a, _, rfl, ex_l e hx, for_enum (D := { D with nx := tz D }) Pv (h0 H1 e) hl (fun i x T σ' H' hi q hT => g2_go upd_same (hs i x T σ' H' hi q hT)) hd⟩
/-- max of a new list -/
theorem ev_maxN {m0 : Int} (h : EvL ta σ H (ns.map V.int)) (hn : 0 < ns.length) (hm : ∀ m, m ∈ ns → (∀ y ∈ ns, y ≤ m) → m = m0) : Ev (tCB (rMax K) (tCons ta tNil)) σ H (.int m0) := fun H1 e Q q => h H1 e _ fun p H2 _ e2 h2 => ⟨p, ns, rfl, sq_map h2, hn, fun m h3 h4 => by
  rw [hm m h3 h4]
  exact q H2 e2⟩
theorem ev_lenS (ha : Ev ta σ H (.ref a)) (h : SL K H a ps) : Ev (tCB (rLenS K) (tCons ta tNil)) σ H (.int (ps.length : Int)) := by
  obtain ⟨bs, h1, h2⟩ := h
  refine ev_is (ev_lenX ha h1) ?_
  rw [rs_len, h2.len]
theorem ev_isiS {T : String} {b : Bool} (h : Ev ta σ H (.ref a)) (hs : SL K H a ps) (hk : kitB "list" T = some b) : Ev (tCB (rIsi K) (tCons ta (tCons (tC (.ty T)) tNil))) σ H (.bl b) := let ⟨_, h1, _⟩ := hs; ev_isiL h h1 hk
theorem q_asgLLs {k : Nat} (h : EvLL te σ H ps) (q : ∀ p bs H1, NewLL H H1 p bs ps → tz D (σ.set k (some (.ref p))) H1) : tSeq (tAsg te (gName k)) tz D σ H := h H (Ex.refl H) _ q
theorem s_retLL (h : EvLL te σ H ps) (q : ∀ p bs H1, NewLL H H1 p bs ps → D.rt (.ref p) H1) : tRet te D σ H := h H (Ex.refl H) _ q
theorem q_parL_LL {k1 k2 : Nat} {xs : List V} (h : EvL ta σ H xs) (h2 : EvLL tb σ H ps) (q : ∀ p d bs H1, H p = none → Ex H H1 → H1 p = some (.lst xs) → NewLL H H1 d bs ps → tz D ((σ.set k1 (some (.ref p))).set k2 (some (.ref d))) H1) :
    tSeq (tPar k1 k2 (tCons ta (tCons tb tNil))) tz D σ H := h H (Ex.refl H) _ fun p H1 hp e1 h3 => h2 H1 e1 _ fun d bs H2 n => ⟨.ref p, .ref d, rfl, q p d bs H2 hp (e1.trans n.2.2.2.2.1) (n.2.2.2.2.1 _ _ h3) (n.back e1)⟩
theorem q_parLL_L {k1 k2 : Nat} {xs : List V} (h2 : EvLL ta σ H ps) (h : EvL tb σ H xs) (q : ∀ d bs p H1 H2, NewLL H H1 d bs ps → H1 p = none → Ex H1 H2 → H2 p = some (.lst xs) → tz D ((σ.set k1 (some (.ref d))).set k2 (some (.ref p))) H2) :
    tSeq (tPar k1 k2 (tCons ta (tCons tb tNil))) tz D σ H := h2 H (Ex.refl H) _ fun d bs H1 n => h H1 n.2.2.2.2.1 _ fun p H2 hp e2 h3 => ⟨.ref d, .ref p, rfl, q d bs p H1 H2 n hp e2 h3⟩
theorem en_sliceS {k : Int} (h : Ev te σ H (.ref a)) (hs : SqL K H a (ns.map V.int)) (hl : Ev ta σ H (.int i)) (hk : Ev tb σ H (.int k)) (h0 : k ≠ 0) : ∀ H1, Ex H H1 → ∀ Q : VK, (∀ (p : Addr) (ms : List Int) H2, H1 p = none → Ex H1 H2 → H2 p = some (.lst (ms.map V.int)) → (∀ z ∈ ms, z ∈ ns) → ms.length ≤ ns.length → Q (.ref p) H2) → tSlS K te (tPart ta) (tPart tb) σ H1 Q := fun H1 e Q q =>
  h H1 e _ fun H2 e2 => hl H2 (e.trans e2) _ fun H3 e3 => ⟨i, rfl, hk H3 ((e.trans e2).trans e3) _ fun H4 e4 => ⟨k, rfl, a, ns.map V.int, rfl, ex_l (((e.trans e2).trans e3).trans e4) hs, fun z => h0 (Option.some.inj z), fun ys hy hl p hp => by
    obtain ⟨ms, rfl⟩ : ∃ ms : List Int, ys = ms.map V.int := by
      clear hl
      induction ys with
      | nil => exact ⟨[], rfl⟩
      | cons y ys ih =>
        obtain ⟨ms, e⟩ := ih fun z hz => hy z (List.mem_cons_of_mem _ hz)
        obtain ⟨n, _, rfl⟩ := List.mem_map.mp (hy y List.mem_cons_self)
        exact ⟨n :: ms, by rw [e]; rfl⟩
    refine q p ms _ (fresh_back ((e2.trans e3).trans e4) hp) (((e2.trans e3).trans e4).trans (Ex.new hp)) upd_same (fun z hz => ?_) (by simpa using hl)
    obtain ⟨n, hn, e⟩ := List.mem_map.mp (hy (.int z) (List.mem_map.mpr ⟨z, hz, rfl⟩))
    cases e
    exact hn⟩⟩
end
end Rh

namespace Rh
open PySem PySem.Spec PyProof.Rows L2 Evl
def clsOf (M : List Int) (L : Int) : List (List Int) := (List.range L.toNat).map fun (r : Nat) => cl M L r
theorem clsOf_at {M : List Int} {L r : Int} (hr : 0 ≤ r ∧ r < L) : (clsOf M L)[r.toNat]? = some (cl M L r) := by
  unfold clsOf
  rw [List.getElem?_map, List.getElem?_range (by omega)]
  show some (cl M L ((r.toNat : Nat) : Int)) = _
  congr 2
  omega
theorem clsOf_snoc {L : Int} (hL : 0 < L) (M : List Int) (n : Int) : clsOf (M ++ [n]) L = (clsOf M L).set (n % L).toNat (cl M L (n % L) ++ [n / L]) := by
  have hr := rest_ok hL n
  refine List.ext_getElem? fun i => ?_
  have hlen : (clsOf M L).length = L.toNat := by unfold clsOf; rw [List.length_map, List.length_range]
  by_cases e : i = (n % L).toNat
  · subst e
    rw [clsOf_at hr, List.getElem?_set_self (by omega), cl_append]
    have e1 : cl [n] L (n % L) = [n / L] := by simp [cl]
    rw [e1]
  · rw [List.getElem?_set_ne (by omega)]
    by_cases hi : i < L.toNat
    · have e2 : ((i : Nat) : Int).toNat = i := by omega
      have a1 := clsOf_at (M := M ++ [n]) (L := L) (r := ((i : Nat) : Int)) ⟨by omega, by omega⟩
      have a2 := clsOf_at (M := M) (L := L) (r := ((i : Nat) : Int)) ⟨by omega, by omega⟩
      rw [e2] at a1 a2
      rw [a1, a2, cl_append]
      have hi2 : ¬ n % L = (i : Int) := by omega
      have e1 : cl [n] L (i : Int) = [] := by simp [cl, hi2]
      rw [e1, List.append_nil]
    · rw [List.getElem?_eq_none (by unfold clsOf; rw [List.length_map, List.length_range]; omega), List.getElem?_eq_none (by omega)]
theorem clsOf_parts (h : List Int) (L : Int) : (clsOf (padM h L) L).map heapOf = partsOf h L := by
  unfold clsOf partsOf
  rw [List.map_map]
  rfl
theorem clsOf_len {M p : List Int} {L : Int} (h : p ∈ clsOf M L) : p.length ≤ M.length := by
  obtain ⟨r, _, rfl⟩ := List.mem_map.mp h
  rw [cl_len]
  exact cnt_le _ _ _
theorem zero_flat (n : Nat) : (List.replicate n [V.int 0]).flatten = (zeros n).map V.int := by
  unfold zeros
  induction n with
  | zero => rfl
  | succ n ih =>
    rw [List.replicate_succ, List.replicate_succ, List.flatten_cons, ih, List.map_cons]
    rfl
theorem joinF_app (N : List Int) (L : Int) : ∀ (a b : List (List Int)) (r : Nat), joinF N L r (a ++ b) = joinF N L r a ++ joinF N L (r + a.length) b
  | [], b, r => by simp [joinF]
  | q :: a, b, r => by
    show marksJ N L r q ++ joinF N L (r + 1) (a ++ b) = marksJ N L r q ++ joinF N L (r + 1) a ++ _
    rw [joinF_app N L a b (r + 1), List.append_assoc, List.length_cons]
    congr 3
    omega
theorem joinF_take (N : List Int) (L : Int) (ps : List (List Int)) (k : Nat) : (joinF N L 0 (ps.take k)).length ≤ (joinF N L 0 ps).length := by
  have := joinF_app N L (ps.take k) (ps.drop k) 0
  rw [List.take_append_drop] at this
  rw [this, List.length_append]
  omega
/-- what may be joined -/
structure JPre (left : List Int) (ps : List (List Int)) (L : Int) : Prop where
  heap : IsHeap left
  few : left.length ≤ 200
  core : rimsH left L = []
  all : ∀ p ∈ ps, IsHeap p ∧ p.length ≤ 200
  len : ((ps.length : Nat) : Int) = L
  lo : 1 ≤ L
  hi : L ≤ 100
theorem JPre.pos {left : List Int} {ps : List (List Int)} {L : Int} (j : JPre left ps L) : 0 < L := by have := j.lo; omega
theorem JPre.join {left : List Int} {ps : List (List Int)} {L : Int} (j : JPre left ps L) : Joins (joinM left ps L) left ps L ∧ (joinF (toldJ left ps L) L 0 ps).length = left.length + padN left L + L.toNat * deepOf ps := join_ok j.pos j.heap j.core j.len fun p hp => (j.all p hp).1
theorem JPre.size {left : List Int} {ps : List (List Int)} {L : Int} (j : JPre left ps L) : deepOf ps ≤ 200 ∧ padN left L < 100 ∧ L.toNat * deepOf ps ≤ 20000 := by
  have h1 := deep_bound fun p hp => (j.all p hp).2
  have h2 := padN_lt (h := left) j.pos
  have h3 := j.hi
  refine ⟨h1, by omega, ?_⟩
  exact Nat.le_trans (Nat.mul_le_mul (show L.toNat ≤ 100 by omega) h1) (by decide)
theorem JPre.max {left : List Int} {ps : List (List Int)} {L : Int} (j : JPre left ps L) {m : Int} (h1 : m ∈ ps.map fun p => ((p.length : Nat) : Int)) (h2 : ∀ y ∈ ps.map fun p => ((p.length : Nat) : Int), y ≤ m) : m = ((deepOf ps : Nat) : Int) := by
  have hne : ps ≠ [] := by
    intro e
    rw [e] at h1
    cases h1
  obtain ⟨p, hp, e⟩ := deep_mem hne
  have h3 := h2 _ (List.mem_map.mpr ⟨p, hp, rfl⟩)
  obtain ⟨q, hq, rfl⟩ := List.mem_map.mp h1
  have h4 := deep_le hq
  omega
section
variable (K : PySem.W.Frag)
def sp_check_few : Sp := spi (fun i => 1 ≤ i ∧ i ≤ 100) fun _ => RetV .non
def sp_parts : Sp := fun vs H Q _ => ∃ (a : Addr) (ns : List Int) (L : Int), vs = [.ref a, .int L] ∧ H a = some (.lst (ns.map V.int)) ∧ (IsHeap ns ∧ ns.length ≤ 25000 ∧ 1 ≤ L ∧ L ≤ 100) ∧ RetLL (partsOf ns L) H Q
def sp_joined : Sp := fun vs H Q _ => ∃ (a b : Addr) (ns : List Int) (ps : List (List Int)) (L : Int), vs = [.ref a, .ref b, .int L] ∧ H a = some (.lst (ns.map V.int)) ∧ SL K H b ps ∧ JPre ns ps L ∧ RetL ((joinM ns ps L).map V.int) H Q
def sp_l_heap_right : Sp := fun vs H Q _ => ∃ (a : Addr) (ns : List Int) (L : Int), vs = [.ref a, .int L] ∧ H a = some (.lst (ns.map V.int)) ∧ (Made ns ∧ 1 ≤ L ∧ L ≤ 100) ∧ RetV (.bl true) H Q
def sp_l_joined_right : Sp := fun vs H Q _ => ∃ (a b : Addr) (ns : List Int) (ps : List (List Int)) (L : Int), vs = [.ref a, .ref b, .int L] ∧ H a = some (.lst (ns.map V.int)) ∧ SL K H b ps ∧ JPre ns ps L ∧ RetV (.bl true) H Q
end
section
variable {K : PySem.W.Frag} {σ : L2.St} {H H' : Hp} {ta tb tc te tx tl : TE} {t u : TT} {x y z v : V} {i j L : Int} {a b c : Addr} {ns ms hs xs : List Int} {D : Ends} {tu tw tz : TS} {g : TG} {tg : TA} {E : XK} {bs cs : List Addr} {ps qs : List (List Int)}
theorem ell_parts (h : EvA tg σ H [.ref a, .int L]) (ha : H a = some (.lst (ns.map V.int))) (hp : IsHeap ns ∧ ns.length ≤ 25000 ∧ 1 ≤ L ∧ L ≤ 100) : EvLL (tCall sp_parts [] E tg) σ H (partsOf ns L) := fun H1 e Q q => h H1 e _ fun H2 e2 =>
  ⟨a, ns, L, rfl, (e.trans e2) _ _ ha, hp, fun p bs H3 n => q p bs H3 (n.back e2)⟩
theorem ell_partsN (h : EvL ta σ H (ns.map V.int)) (hb : Ev tb σ H (.int L)) (hp : IsHeap ns ∧ ns.length ≤ 25000 ∧ 1 ≤ L ∧ L ≤ 100) : EvLL (tCall sp_parts [] E (tCons ta (tCons tb tNil))) σ H (partsOf ns L) := fun H1 e Q q => h H1 e _ fun a H2 _ e2 h2 => hb H2 (e.trans e2) _ fun H3 e3 =>
  ⟨a, ns, L, rfl, e3 _ _ h2, hp, fun p bs H3 n => q p bs H3 (n.back (e2.trans e3))⟩
theorem el_joined (h : EvA tg σ H [.ref a, .ref b, .int L]) (ha : H a = some (.lst (ns.map V.int))) (hb : SL K H b ps) (hp : JPre ns ps L) : EvL (tCall (sp_joined K) [] E tg) σ H ((joinM ns ps L).map V.int) := fun H1 e Q q => h H1 e _ fun H2 e2 =>
  ⟨a, b, ns, ps, L, rfl, (e.trans e2) _ _ ha, hb.ex (e.trans e2), hp, fun p H3 hp e3 h3 => q p H3 (fresh_back e2 hp) (e2.trans e3) h3⟩
theorem el_joinedN (h : EvL ta σ H (ns.map V.int)) (h2 : EvLL tb σ H ps) (h3 : Ev tc σ H (.int L)) (hp : JPre ns ps L) : EvL (tCall (sp_joined K) [] E (tCons ta (tCons tb (tCons tc tNil)))) σ H ((joinM ns ps L).map V.int) := fun H1 e Q q => h H1 e _ fun a H2 _ e2 q2 => h2 H2 (e.trans e2) _ fun b bs H3 n => h3 H3 ((e.trans e2).trans n.2.2.2.2.1) _ fun H4 e4 =>
  ⟨a, b, ns, ps, L, rfl, (n.2.2.2.2.1.trans e4) _ _ q2, n.sl.ex e4, hp, fun p H5 hp e5 h5 => q p H5 (fresh_back ((e2.trans n.2.2.2.2.1).trans e4) hp) (((e2.trans n.2.2.2.2.1).trans e4).trans e5) h5⟩
theorem q_asgD {k : Nat} {Good : List (Key × V) → Prop} (h : EvD te σ H Good) (q : ∀ p kvs H1, H p = none → Ex H H1 → H1 p = some (.dK kvs) → Good kvs → tz D (σ.set k (some (.ref p))) H1) : tSeq (tAsg te (gName k)) tz D σ H := h H (Ex.refl H) _ q
/-- a heap and rows of none -/
theorem el_pad {k : Nat} (h : Ev ta σ H (.ref a)) (ha : H a = some (.lst (ns.map V.int))) (hz : ns.length ≤ 30000) (h2 : Ev tb σ H (.int i)) (hi : -30000 ≤ i ∧ i ≤ 30000) (hk : i.toNat = k) : EvL (tOp rCat ta (tOp rRep (tLst (tCons (tC (.int 0)) tNil)) tb)) σ H ((ns ++ zeros k).map V.int) :=
  el_as (el_catXN h ha (el_repN (k := k) (el_lst (ea_one ev_c) (Nat.le_of_ble_eq_true rfl)) h2 (by omega) hk (by show 1 * k ≤ _; omega)) (by
    rw [zero_flat, List.length_map, List.length_map]
    show _ + (zeros k).length ≤ _
    unfold zeros
    rw [List.length_replicate]
    omega)) (by rw [zero_flat, List.map_append])
end
end Rh
namespace Rh
open PySem PySem.Spec PyProof.Rows L2 Evl
section
variable {K : PySem.W.Frag} {σ : L2.St} {H H' : Hp} {ta tb tc te tx tl : TE} {t u : TT} {x y z v : V} {i j L : Int} {a b c : Addr} {ns ms hs : List Int} {D : Ends} {tu tw tz : TS} {g : TG} {tg : TA} {E : XK} {bs : List Addr} {ps qs : List (List Int)}
theorem ell_as (h : EvLL te σ H ps) (e : ps = qs) : EvLL te σ H qs := by
  rw [← e]
  exact h
theorem ell_copy {k : Nat} {vs : List Nat} (h : Ev tl σ H (.ref a)) (hx : SL K H a ps) (hz : ps.length ≤ 50000) (hw : ∀ x, wipe ((wipe σ vs).set k (some x)) vs = wipe σ vs)
    (he : ∀ b p, p ∈ ps → H b = some (.lst (p.map V.int)) → EvL te ((wipe σ vs).set k (some (.ref b))) H (p.map V.int)) : EvLL (tLc (iList K tl) (gName k) tYes te vs) σ H ps :=
  ell_as (ell_cS (fun p => p) h hx hz hw he) (by simp)
theorem go_heap_right (ha : H a = some (.lst (ns.map V.int))) (hp : Made ns ∧ 1 ≤ L ∧ L ≤ 100) : SpV sp_l_heap_right [.ref a, .int L] H (.bl true) := fun _ e Q q E => ⟨a, ns, L, rfl, e _ _ ha, hp, q⟩
theorem go_joined_right (ha : H a = some (.lst (ns.map V.int))) (hb : SL K H b ps) (hp : JPre ns ps L) : SpV (sp_l_joined_right K) [.ref a, .ref b, .int L] H (.bl true) := fun _ e Q q E => ⟨a, b, ns, ps, L, rfl, e _ _ ha, hb.ex e, hp, q⟩
theorem ev_joined_rightN (h1 : EvL ta σ H (ns.map V.int)) (h2 : Ev tb σ H (.ref b)) (h3 : Ev tc σ H (.int L)) (hb : SL K H b ps) (hp : JPre ns ps L) : Ev (tCall (sp_l_joined_right K) [] E (tCons ta (tCons tb (tCons tc tNil)))) σ H (.bl true) := fun H1 e Q q => h1 H1 e _ fun p H2 _ e2 q2 => h2 H2 (e.trans e2) _ fun H3 e3 => h3 H3 ((e.trans e2).trans e3) _ fun H4 e4 =>
  ⟨p, b, ns, ps, L, rfl, (e3.trans e4) _ _ q2, hb.ex (((e.trans e2).trans e3).trans e4), hp, fun H5 e5 => q H5 (((e2.trans e3).trans e4).trans e5)⟩
/-- the pair of a new list's core and a number -/
theorem ec_coreN (h : EvL ta σ H (ns.map V.int)) (hL : Ev tb σ H (.int L)) (hp : Len ns ∧ 0 < L ∧ L.natAbs.log2 < 9000) : EvC (tCall (sp_l_core K) [] E (tCons ta (tCons tb tNil))) σ H (coreOf ns L) (rimsIn ns L) := fun H1 e Q q =>
  h H1 e _ fun a H2 _ e2 h2 => hL H2 (e.trans e2) _ fun H3 e3 => ⟨a, ns, L, rfl, sq_map (e3 _ _ h2), hp, fun p c H4 hp hc e4 h1 h2 => q p c H4 (fresh_back (e2.trans e3) hp) (fresh_back (e2.trans e3) hc) ((e2.trans e3).trans e4) h1 h2⟩
theorem el_first {cs : List Int} {n : Int} (h : EvC ta σ H cs n) : EvL (tOp (rIxT K) ta (tC (.int 0))) σ H (cs.map V.int) := fun H1 e Q q => h H1 e _ fun p c H2 hp hc e2 h1 h2 => ⟨p, [.ref c, .int n], 0, .ref c, rfl, rfl, st_of h2, rfl, q c H2 hc e2 h1⟩
theorem ev_neCU {cs ds : List Int} {n m : Int} (h1 : EvC ta σ H cs n) (h2 : EvU tb σ H [.ref c, .int m]) (hc : SqL K H c (ds.map V.int)) : Ev (tOp (rNeD K) ta tb) σ H (.bl (!(decide (cs = ds) && decide (n = m)))) := fun H1 e Q q => h1 H1 e _ fun p k H2 _ _ e2 q1 q2 => h2 H2 (e.trans e2) _ fun r H3 _ e3 q3 =>
  ⟨_, _, dp_pair (st_of (e3 _ _ q2)) (sq_map (e3 _ _ q1)), dp_pair (st_of q3) (ex_l ((e.trans e2).trans e3) hc), shaped_pair _ _, shaped_pair _ _, by
    rw [eqv_pair]
    exact q H3 (e2.trans e3)⟩
theorem en_heapS (h : ∀ H1, Ex H H1 → ∀ Q : VK, (∀ (p : Addr) (ms : List Int) H2, H1 p = none → Ex H1 H2 → H2 p = some (.lst (ms.map V.int)) → (∀ z ∈ ms, z ∈ ns) → ms.length ≤ ns.length → Q (.ref p) H2) → ta σ H1 Q) (hb : Ev tb σ H (.int j)) (hp : Bits ns ∧ Len ns) (hj : 0 ≤ j ∧ j ≤ 100)
    {k : Nat} (q : ∀ (p : Addr) (ms : List Int) H1, H p = none → Ex H H1 → H1 p = some (.lst (ms.map V.int)) → Made ms → tz D (σ.set k (some (.ref p))) H1) : tSeq (tAsg (tCall (sp_l_heap K) [] E (tCons ta (tCons tb tNil))) (gName k)) tz D σ H :=
  h H (Ex.refl H) _ fun p ms H2 _ e2 h2 hm hl => hb H2 e2 _ fun H3 e3 => ⟨p, ms, j, rfl, sq_map (e3 _ _ h2), ⟨⟨fun z hz => hp.1 z (hm z hz), Nat.le_trans hl hp.2⟩, hj⟩, fun r H4 hr e4 h4 => q r _ H4 (fresh_back (e2.trans e3) hr) ((e2.trans e3).trans e4) h4 (heapM_made _ _)⟩
theorem s_appIf {xs : List V} {l : Addr} {b : Bool} (hl : H l = some (.lst xs)) (ha : Ev ta σ H (.ref l)) (ht : EvT t σ H b) (hc : Ev tc σ H (.ref c)) (hcl : c ≠ l) (hco : H c = some (.lst (ms.map V.int))) (hz : xs.length < 100000)
    (k : ∀ p ps H1, Ex H H1 → p ≠ l → H1 p = some (.lst (ps.map V.int)) → (ps = ms ∨ ps = []) → D.nx σ (upd H1 l (.lst (xs ++ [.ref p])))) : tDrop (tBM K "list" rAppend ta (tCons (tIf t tc (tLst tNil)) tNil)) D σ H :=
  ha H (Ex.refl H) _ fun H1 e1 => ⟨Or.inl ⟨rfl, _, sq_of (e1 l _ hl)⟩, ht H1 e1 _ fun H2 e2 => by
    cases b with
    | true => exact hc H2 (e1.trans e2) _ fun H3 e3 => ⟨l, xs, .ref c, rfl, rfl, ((e1.trans e2).trans e3) _ _ hl, sz_lt hz, k c ms H3 ((e1.trans e2).trans e3) hcl (((e1.trans e2).trans e3) _ _ hco) (.inl rfl)⟩
    | false => exact ⟨Nat.zero_le _, fun p hp => ⟨l, xs, .ref p, rfl, rfl, Ex.new hp _ _ ((e1.trans e2) _ _ hl), sz_lt hz, k p [] _ ((e1.trans e2).trans (Ex.new hp)) (ne_of_none ((e1.trans e2) _ _ hl) hp).symm upd_same (.inr rfl)⟩⟩⟩
/-- xs[i] = a new list -/
theorem s_setLN {xs ys : List V} {l : Addr} {j : Nat} (hl : H l = some (.lst xs)) (h : EvL te σ H ys) (ho : Ev ta σ H (.ref l)) (hi : Ev tb σ H (.int (j : Int))) (hj : j < xs.length) (k : ∀ p H1, H p = none → Ex H H1 → H1 p = some (.lst ys) → D.nx σ (upd H1 l (.lst (xs.set j (.ref p))))) :
    tAsg te (gSub ta tb rSetL) D σ H := h H (Ex.refl H) _ fun p H1 hp e1 h1 => ho H1 e1 _ fun H2 e2 => hi H2 (e1.trans e2) _ fun H3 e3 => ⟨l, xs, (j : Int), j, rfl, rfl, ((e1.trans e2).trans e3) _ _ hl, ixN_nat hj, k p H3 hp ((e1.trans e2).trans e3) ((e2.trans e3) _ _ h1)⟩
theorem cut_map (ns : List Int) (lo hi : Option Int) : ∃ ms : List Int, cutV (ns.map V.int) lo hi = ms.map V.int ∧ (∀ z ∈ ms, z ∈ ns) ∧ ms.length ≤ ns.length := by
  unfold cutV
  refine ⟨(ns.drop (HT.sIx (ns.map V.int).length 0 lo)).take (HT.sIx (ns.map V.int).length (ns.map V.int).length hi - HT.sIx (ns.map V.int).length 0 lo), by rw [List.map_take, List.map_drop], fun z hz => List.mem_of_mem_drop (List.mem_of_mem_take hz), ?_⟩
  rw [List.length_take, List.length_drop]
  omega
theorem isHeap_nil : IsHeap [] := ⟨(fun x h => by cases h), List.Pairwise.nil⟩
theorem sl_put {H1 : Hp} {l p : Addr} {q : List Int} (hll : LL H1 bs ps) (hn : l ∉ bs) (hp : p ≠ l) (ho : H1 p = some (.lst (q.map V.int))) (o : HO) : LL (upd H1 l o) (bs ++ [p]) (ps ++ [q]) := (hll.snoc ho).mono fun b hb o2 h2 => by
  rw [upd_ne fun z => ?_]
  · exact h2
  · rcases List.mem_append.mp hb with hb | hb
    · exact hn (by rw [← z]; exact hb)
    · have : b = p := by simpa using hb
      exact hp (by rw [← this, z])
theorem sl_swap {H1 : Hp} {l p : Addr} {q : List Int} {k : Nat} (hll : LL H1 bs ps) (hn : l ∉ bs) (hp : p ≠ l) (ho : H1 p = some (.lst (q.map V.int))) (o : HO) : LL (upd H1 l o) (bs.set k p) (ps.set k q) := (hll.swap ho).mono fun b hb o2 h2 => by
  rw [upd_ne fun z => ?_]
  · exact h2
  · rcases List.mem_or_eq_of_mem_set hb with hb | hb
    · exact hn (by rw [← z]; exact hb)
    · exact hp (by rw [← hb, z])
end
end Rh

namespace Rh
open PySem PySem.Spec PyProof.Rows L2 Evl

structure ExcT (K : PySem.W.Frag) (mg : Str → Option Value) (x : Str) (C : Addr) : Prop where
  mgC : mg x = some (.ref C)
  xF : PySem.W.excIn K C [.type "ValueError", .type "Exception", .type "BaseException", .type "object"] "ValueError.__new__" = true
  kF : PySem.W.keepIn K (.ref C) = true
  ic : ExcC K C
  tF : PySem.W.typeIn K (.ref C) = some (.type "type")
  ve : PySem.W.kitOne K (.ref C) (.type "ValueError") = some true
def tRaise (C : Addr) (W : WX) : TS := fun _ σ H => W (.ref C) none σ H
theorem ps_refuse {X : Cx} {W : WX} {x m : Str} {C : Addr} {j : Nat} {p p2 pos pos2 : Pos} (T : ExcT X.K X.mg x C) (hc : X.calm = true) (tk : Takes X W) (hg : Gl X x) (hdb : (x == ("__debug__" : Str)) = false := by decide) :
    PS X (.Raise (some (.Call (.Name x p) [.Constant (.str m) j p2] [] pos)) none pos2) (tRaise C W) :=
  ps_raise hc tk (pmk_own PySem.F.excBase_ValueError T.xF T.mgC T.kF (raises_own T.ic.hs T.tF) hg hdb)
theorem passE {X : Cx} {E : XK} (hs : X.stack = X.env :: X.outer) (hf : X.env.frame = some X.env.locals) (hex : X.ex = []) {E₁ : Value → Shared → Prop}
    (hx : X.xe = fun e s' => wpAny (model X.prog X.w) X.A (leaving X.env e) (fun _ s'' => L2.CX X.prog X.w X.outer X.H_0 X.s_0 E e s'') E₁ s') : Passes (L2.CX X.prog X.w) X E := passes_call (takes_of hs hf hex hx) fun _ _ _ _ h => h

structure FnZ (P : Program) (w : World) (K : PySem.W.Frag) (mg : Str → Option Value) (base : Heap) (k : Nat) (f : Addr) (fd : FuncData) (ps : List Str) (sp : Addr → Value → Sp) : Prop where
  len : ∀ a cls vs H Q E, sp a cls vs H Q E → vs.length = ps.length
  run : ∀ (A : Around) (outer : List Env) (s : Shared) (H : Hp) (args : Args) (us : List Value) (vs : List V) (Q : VK) (E : XK) (p : Addr × Obj) (cls : Value), L2H.RoomH k A → Zc cls none p.2 → (∃ vs, p.2.data = .fields vs) → L2H.PinOk outer H s p →
    Env0 P w K mg base A outer s H → BindsTo s fd args (ps.zip us) → Vals vs us → sp p.1 cls vs H Q E → codeAny (model P w) A (.call (.ref f) args) (CR CX0 outer P w H s Q E) s
theorem fn_ofZ {P : Program} {w : World} {K : PySem.W.Frag} {mg : Str → Option Value} {base : Heap} {k : Nat} {f : Addr} {name qual : Str} {params : Arguments} {body : List Stmt} {scope : Scope} {dV kV doc pm cdv ct oc : Value} {an od : Option Addr}
    {osl : Array (Option Value)} {N ps : List Str} {sp : Addr → Value → Sp} (lk : K.lookup f = some ⟨oc, od, .func (PySem.W.fnOf name qual params body scope dV kV doc pm an cdv ct), osl⟩) (hcd : PySem.W.codeIn K cdv qual = true) (S : FnScope N ps scope)
    (len : ∀ a cls vs H Q E, sp a cls vs H Q E → vs.length = ps.length)
    (hbody : ∀ (A : Around) (outer : List Env) (s : Shared) (H : Hp) (vs : List V) (Q : VK) (E : XK) (p : Addr × Obj) (cls : Value), Zc cls none p.2 → (∃ vs, p.2.data = .fields vs) → L2H.RoomH k (A.deeper (envOfC qual scope s.heap.objs.size f cdv)) → sp p.1 cls vs H Q E →
      ∃ t, PSs (L2H.cxH CX0 P w K mg base N qual scope f cdv A outer s H E p) body t ∧ t { nx := fun _ H' => Q .non H', rt := Q } (L2.start N vs) H) :
    FnZ P w K mg base (k + 1) f (PySem.W.fnOf name qual params body scope dV kV doc pm an cdv ct) ps sp := by
  refine ⟨len, fun A outer s H args us vs Q E p cls hr hz hfd hpin e0 hb r hsp => ?_⟩
  have hl := len _ _ _ _ _ _ hsp
  have KX : K.In s.heap := e0.mod.kin.keeps fun b o e => (e0.bs b o e).1
  have lim : s.heap.NoLimit := e0.mod.nolimit.keeps fun b o e => (e0.bs b o e).1
  have hkind : ∀ y ∈ ps.zip us, scope.names.lookup y.1 = some .local ∨ (scope.names.lookup y.1 = some .cell ∧ ((cellsFrom (s.heap.objs.size + 1) scope.names []).lookup y.1).isSome = true) := fun ⟨n, v⟩ hy => by
    rcases S.par n (List.of_mem_zip hy).1 with q | q
    · exact .inl q
    · exact .inr ⟨q, PySem.W.cellsFrom_some _ _ _ (.inl q)⟩
  refine codeAny_call_function hr.depth (KX _ _ lk) rfl S.co S.gen rfl (PySem.W.codeRec_of KX hcd) (hb _ _ _ _ ?_)
  refine wpAny_newFunctionEnv_cells S.kind hkind fun env he s1 x => ?_
  subst he
  refine ⟨lim.keeps x.toInCall.keep, codeAny_func ?_⟩
  obtain ⟨t, ht, hq⟩ := hbody A outer s H vs Q E p cls hz hfd (hr.deeper _) hsp
  have I : Inv (L2H.cxH CX0 P w K mg base N qual scope f cdv A outer s H E p) [] (L2.start N vs) H s1 := L2H.inv_startH S hpin e0 hl r x
  refine wpAny_mono (ht.run [] s1 (L2.start N vs) H _ I hq) (fun fl s' hs => ?_) fun e s' hs => hs
  have fin : ∀ {σ' : L2.St} {H' : Hp} {v : V} {u : Value}, Inv (L2H.cxH CX0 P w K mg base N qual scope f cdv A outer s H E p) [] σ' H' s' → RelV v u → Q v H' → CE outer P w H s Q u s' :=
    fun {σ' H' v u} J rv q => ⟨v, H', J.os, J.bare, J.base, J.hok, rv, q⟩
  cases fl with
  | ret u =>
    obtain ⟨v, σ', H', J, rv, q⟩ := hs
    exact fin J rv q
  | next =>
    obtain ⟨σ', H', J, q⟩ := hs
    exact fin (v := V.non) (u := Value.none) J rfl q
  | brk =>
    obtain ⟨_, _, _, q⟩ := hs
    exact False.elim q
  | cont =>
    obtain ⟨_, _, _, q⟩ := hs
    exact False.elim q
section
variable {X : Cx} {k : Nat} {f : Addr} {fd : FuncData} {ps : List Str} {sp : Addr → Value → Sp} {x : Str} {q pos : Pos} {e : Expr} {es : List Expr} {t : TA}
def tCallZ (sp : Addr → Value → Sp) (a : Addr) (cls : Value) (t : TA) : TE := fun σ H Q => t σ H fun vs H1 => sp a cls vs H1 Q E0
theorem pe_callZ {a : Addr} {oe : Obj} {cls : Value} (F : FnZ X.prog X.w X.K X.mg X.base k f fd ps sp) (hr : L2H.RoomH k X.A) (hp : (a, oe) ∈ X.pn) (hz : Zc cls none oe) (hfd : ∃ vs, oe.data = .fields vs) (hg : Gl X x) (hm : X.mg x = some (.ref f)) (hk : PySem.W.keepIn X.K (.ref f) = true) (hb : Binds X.K fd ps [])
    (ha : PA X (e :: es) t) (hdb : (x == ("__debug__" : Str)) = false := by decide) (he : starEach (e :: es) X.env = (false, eval e X.env) :: starEach es X.env := by rfl) (hpl : (backTo pos (starEach es X.env)).any (·.1) = false := by rfl) :
    PE X (.Call (.Name x q) (e :: es) [] pos) (tCallZ sp a cls t) := by
  refine ⟨fun pins s σ H Q I h => ?_⟩
  refine wpAny_Call_Name_kw (ld_glob I hg hm ?_ hdb)
  refine PySem.W.callWith_K (h₀ := X.base) I.ok.mod.kin hk (thn (ha.run pos pins s σ H _ I h) fun us s1 ⟨vs, H1, I1, r, q⟩ => ⟨I1.kIn, ?_⟩) he hpl
  have hl : us.length = ps.length := by rw [← r.length]; exact F.len _ _ _ _ _ _ q
  have b := hb s1 us I1.kIn (by rw [List.append_nil]; exact hl)
  rw [List.append_nil] at b
  have P1 := I1.pin (a, oe) (List.mem_append_left _ hp)
  have hpin : L2H.PinOk X.stack H1 s1 (a, oe) := ⟨P1.1, P1.2.1, fun hm => (List.mem_cons.mp (I1.stkSub a hm)).elim P1.2.2.1 P1.2.2.2.1, P1.2.2.2.2⟩
  refine wpAny_call (codeAny_mono (F.run X.A X.stack s1 H1 ⟨us, []⟩ us vs Q E0 (a, oe) cls hr hz hfd hpin I1.env0 b r q) fun r s' hq => ?_)
  cases r with
  | error e => exact hq.elim
  | ok fl =>
    cases fl with
    | ret u => exact I1.after hq
    | next => exact False.elim hq
    | brk => exact False.elim hq
    | cont => exact False.elim hq
/-- isinstance(e, c), e the exception that is pinned -/
theorem call_isP {a D : Addr} {oe : Obj} (C : ExcC X.K D) (hz : Zc (.ref D) none oe) (hf : ∃ vs, oe.data = .fields vs) (hp : (a, oe) ∈ X.pn) : CallR X (.builtin "isinstance") (rIsE X.K D a) := by
  intro pins s σ H xs us Q I r h
  obtain ⟨c, cv, b, rfl, hcv, e, q⟩ := h
  cases r with
  | cons rx rr =>
    cases rr with
    | cons rt rr =>
      cases rr
      cases rx
      have ec := hcv _ rt
      subst ec
      obtain ⟨hget, _⟩ := I.pin (a, oe) (List.mem_append.mpr (.inl hp))
      obtain ⟨vs, hv⟩ := hf
      have J : PySem.W.InstAt s.heap a oe D none := by
        obtain ⟨oc, od, oda, osl⟩ := oe
        obtain ⟨h1, h2⟩ := hz
        dsimp only at h1 h2 hv
        subst h1 h2 hv
        exact ⟨hget, rfl, rfl, trivial⟩
      exact PySem.W.kia_one (PySem.W.handS_kitx_exc C.hg C.hk C.hs C.hd C.ha C.hn C.ht C.hm) I.kIn J e (fun z => nomatch z) fun tk => ⟨.bl b, H, I.kept (t' := tk) fun _ _ z => z, rfl, q⟩

structure HeldX (P : Program) (w : World) (K : PySem.W.Frag) (mg : Str → Option Value) (base : Heap) (k : Nat) (f : Addr) (sp : Sp) : Prop where
  ex : ∃ (fd : FuncData) (ps : List Str), FnOk P w K mg base (L2.CX P w) k f fd ps sp ∧ PySem.W.keepIn K (.ref f) = true ∧ Binds K fd ps []
def tCallR (i : Nat) (S : Addr → Sp → Prop) (E : L2.St → XK) (t : TA) : TE := fun σ H Q => ∃ f sp, σ[i]? = some (some (.ref f)) ∧ S f sp ∧ t σ H fun vs H1 => sp vs H1 Q (E σ)
theorem pe_callR {i : Nat} {S : Addr → Sp → Prop} {E : L2.St → XK} (A : ∀ f sp, S f sp → HeldX X.prog X.w X.K X.mg X.base k f sp) (hr : Room k X.A) (hx : ∀ σ, PassesAt (L2.CX X.prog X.w) X σ (E σ)) (hN : X.N[i]? = some x) (hv : Vis X.env.scope x) (ha : PA X (e :: es) t)
    (hdb : (x == ("__debug__" : Str)) = false := by decide) (hcd : (x == ("__classdict__" : Str)) = false := by decide)
    (he : starEach (e :: es) X.env = (false, eval e X.env) :: starEach es X.env := by rfl) (hpl : (backTo pos (starEach es X.env)).any (·.1) = false := by rfl) : PE X (.Call (.Name x q) (e :: es) [] pos) (tCallR i S E t) := by
  refine ⟨fun pins s σ H Q I h => ?_⟩
  obtain ⟨f, sp, hs, hS, ht⟩ := h
  obtain ⟨fd, ps, F, hk, hb⟩ := (A f sp hS).ex
  refine wpAny_Call_Name_kw (thn ((pe_var (pos := q) hN hv hdb hcd).run pins s σ H (fun v H1 => v = .ref f ∧ H1 = H) I ⟨.ref f, hs, rfl, rfl⟩) fun u s1 ⟨v, H1, I1, r1, q1⟩ => ?_)
  obtain ⟨rfl, rfl⟩ := q1
  cases r1
  refine PySem.W.callWith_K (h₀ := X.base) I.ok.mod.kin hk (thn (ha.run pos pins s1 σ _ _ I1 ht) fun us s2 ⟨vs, H2, I2, r, q⟩ => ⟨I2.kIn, ?_⟩) he hpl
  exact run_fnS F hr hb (hx σ) I2 r q
end

section
variable {K : PySem.W.Frag} {σ : L2.St} {H H' : Hp} {ta tb te : TE} {tt : TT} {x y v : V} {C : Addr} {sp : Sp} {vs : List V} {E : XK} {tg : TA} {D : Ends} {tu tw tz : TS}
/-- the call refuses with an error of the class at C -/
def SpX (sp : Sp) (vs : List V) (H : Hp) (C : Addr) : Prop := ∀ H1, Ex H H1 → ∀ (Q : VK) (E : XK), (∀ H2, Ex H1 H2 → E (.ref C) none H2) → sp vs H1 Q E
theorem SpX.ex (e : Ex H H') (h : SpX sp vs H C) : SpX sp vs H' C := fun H1 a => h H1 (e.trans a)
def RetX (C : Addr) (H : Hp) (E : XK) : Prop := ∀ H2, Ex H H2 → E (.ref C) none H2
theorem RetX.ex (e : Ex H H') (h : RetX C H E) : RetX C H' E := fun H2 a => h H2 (e.trans a)
/-- an expression that refuses -/
def EvX (te : TE) (σ : L2.St) (H : Hp) : Prop := ∀ H1, Ex H H1 → ∀ Q : VK, te σ H1 Q
def EvXA (ta : TA) (σ : L2.St) (H : Hp) : Prop := ∀ H1, Ex H H1 → ∀ Q, ta σ H1 Q
def EvXT (tt : TT) (σ : L2.St) (H : Hp) : Prop := ∀ H1, Ex H H1 → ∀ Q, tt σ H1 Q
theorem ex_call (h : EvA tg σ H vs) (hs : SpX sp vs H C) (hE : RetX C H E) : EvX (tCall sp [] E tg) σ H := fun H1 e Q => h H1 e _ fun H2 e2 => by
  rw [List.append_nil]
  exact hs H2 (e.trans e2) Q E fun H3 e3 => hE H3 ((e.trans e2).trans e3)
theorem ex_op1 {r : R2} (h : EvX ta σ H) : EvX (tOp r ta tb) σ H := fun H1 e Q => h H1 e _
theorem ex_if {b : Bool} (h : EvT tt σ H b) (h1 : b = true → EvX ta σ H) (h2 : b = false → EvX tb σ H) : EvX (tIf tt ta tb) σ H := fun H1 e Q => h H1 e _ fun H2 e2 => by
  cases b with
  | true =>
    show ta σ H2 Q
    exact h1 rfl H2 (e.trans e2) Q
  | false =>
    show tb σ H2 Q
    exact h2 rfl H2 (e.trans e2) Q
theorem ext_test (h : EvX te σ H) : EvXT (tTest te) σ H := fun H1 e _ => h H1 e _
theorem s_dropX (h : EvX te σ H) : tDrop te D σ H := h H (Ex.refl H) _
theorem q_dropX (h : EvX te σ H) : tSeq (tDrop te) tz D σ H := h H (Ex.refl H) _
theorem s_retX (h : EvX te σ H) : tRet te D σ H := h H (Ex.refl H) _
theorem q_whenX (h : EvXT tt σ H) : tSeq (tIfS tt tu tw) tz D σ H := h H (Ex.refl H) _
theorem s_raise {W : WX} (h : W (.ref C) none σ H) : tRaise C W D σ H := h

/-- no list -/
inductive KdN (H : Hp) : V → Prop
  | non : KdN H .non
  | bl (b : Bool) : KdN H (.bl b)
  | int (i : Int) : KdN H (.int i)
  | str (z : Str) : KdN H (.str z)
  | tup {a : Addr} {xs : List V} (h : H a = some (.tup xs)) : KdN H (.ref a)
  | dic {a : Addr} (h : H a = some (.dK [])) : KdN H (.ref a)
def Kd (H : Hp) (v : V) : Prop := KdN H v ∨ ∃ a xs, v = .ref a ∧ H a = some (.lst xs)
theorem KdN.ex (e : Ex H H') (k : KdN H v) : KdN H' v := by
  cases k with
  | non => exact .non
  | bl b => exact .bl b
  | int i => exact .int i
  | str z => exact .str z
  | tup h => exact .tup (e _ _ h)
  | dic h => exact .dic (e _ _ h)
theorem Kd.ex (e : Ex H H') (k : Kd H v) : Kd H' v := by
  rcases k with k | ⟨a, xs, rfl, h⟩
  · exact .inl (k.ex e)
  · exact .inr ⟨a, xs, rfl, e _ _ h⟩
def wholeV : V → Bool
  | .int _ => true
  | _ => false
/-- how it answers to isinstance -/
structure Isa (K : PySem.W.Frag) (H : Hp) (v : V) (T : String) (b : Bool) : Prop where
  ex : ∃ U, TyX K H v (.type U) ∧ kitB U T = some b
theorem Kd.isa (k : Kd H v) : ∃ b1 b2, (∀ H', Ex H H' → Isa K H' v "int" b1) ∧ (∀ H', Ex H H' → Isa K H' v "bool" b2) ∧ (b1 && !b2) = wholeV v := by
  rcases k with k | ⟨a, xs, rfl, h⟩
  · cases k with
    | non => exact ⟨false, false, fun _ _ => ⟨_, .base .non, by decide +kernel⟩, fun _ _ => ⟨_, .base .non, by decide +kernel⟩, rfl⟩
    | bl b => exact ⟨true, true, fun _ _ => ⟨_, .base (.bl b), by decide +kernel⟩, fun _ _ => ⟨_, .base (.bl b), by decide +kernel⟩, rfl⟩
    | int i => exact ⟨true, false, fun _ _ => ⟨_, .base (.int i), by decide +kernel⟩, fun _ _ => ⟨_, .base (.int i), by decide +kernel⟩, rfl⟩
    | str z => exact ⟨false, false, fun _ _ => ⟨_, .base (.str z), by decide +kernel⟩, fun _ _ => ⟨_, .base (.str z), by decide +kernel⟩, rfl⟩
    | tup h => exact ⟨false, false, fun _ e => ⟨_, .base (.tup (e _ _ h)), by decide +kernel⟩, fun _ e => ⟨_, .base (.tup (e _ _ h)), by decide +kernel⟩, rfl⟩
    | dic h => exact ⟨false, false, fun _ e => ⟨_, .base (.dK (e _ _ h)), by decide +kernel⟩, fun _ e => ⟨_, .base (.dK (e _ _ h)), by decide +kernel⟩, rfl⟩
  · exact ⟨false, false, fun _ e => ⟨_, .base (.lst (e _ _ h)), by decide +kernel⟩, fun _ e => ⟨_, .base (.lst (e _ _ h)), by decide +kernel⟩, rfl⟩
theorem KdN.noList (k : KdN H v) : Isa K H v "list" false := by
  cases k with
  | non => exact ⟨_, .base .non, by decide +kernel⟩
  | bl b => exact ⟨_, .base (.bl b), by decide +kernel⟩
  | int i => exact ⟨_, .base (.int i), by decide +kernel⟩
  | str z => exact ⟨_, .base (.str z), by decide +kernel⟩
  | tup h => exact ⟨_, .base (.tup h), by decide +kernel⟩
  | dic h => exact ⟨_, .base (.dK h), by decide +kernel⟩
theorem ev_isa {T : String} {b : Bool} (h : Ev ta σ H v) (k : ∀ H', Ex H H' → Isa K H' v T b) : Ev (tCB (rIsi K) (tCons ta (tCons (tC (.ty T)) tNil))) σ H (.bl b) := fun H1 e Q q =>
  h H1 e _ fun H2 e2 => by
    obtain ⟨U, h1, h2⟩ := k H2 (e.trans e2)
    exact ⟨_, _, _, _, b, rfl, .ty T, h1, kit_ty h2, q H2 e2⟩
def posV : V → Bool
  | .int n => decide (0 < n)
  | _ => false
def intV : V → Int
  | .int n => n
  | _ => 0
theorem pos_whole (h : posV v = true) : ∃ n, v = .int n ∧ 0 < n := by
  cases v with
  | int n => exact ⟨n, rfl, of_decide_eq_true h⟩
  | _ => cases h
theorem whole_int (h : wholeV v = true) : ∃ n, v = .int n := by
  cases v with
  | int n => exact ⟨n, rfl⟩
  | _ => cases h
def fallsB (ns : List Int) : Bool := ((List.range ((ns.length : Int) - 1).toNat).map fun k => decide (ns.getD (k + 1) 0 ≤ ns.getD k 0)).all id
def heapB (xs : List V) : Bool := xs.all posV && fallsB (xs.map intV)
theorem all_pos : ∀ {xs : List V}, xs.all posV = true → xs = (xs.map intV).map V.int
  | [], _ => rfl
  | x :: r, h => by
    rw [List.all_cons, Bool.and_eq_true] at h
    obtain ⟨n, rfl, _⟩ := pos_whole h.1
    rw [List.map_cons, List.map_cons, ← all_pos h.2]
    rfl
theorem heapB_heap {ns : List Int} (h : IsHeap ns) : heapB (ns.map V.int) = true := by
  have e : (ns.map V.int).map intV = ns := by
    rw [List.map_map]
    exact (List.map_congr_left fun x _ => rfl).trans (List.map_id _)
  unfold heapB
  rw [e, Bool.and_eq_true]
  constructor
  · rw [List.all_map, List.all_eq_true]
    intro x hx
    exact decide_eq_true (h.pos x hx)
  · unfold fallsB
    rw [List.all_map, List.all_eq_true]
    intro k hk
    have hk := List.mem_range.mp hk
    have h1 : k + 1 < ns.length := by omega
    have := List.pairwise_iff_getElem.mp h.falls k (k + 1) (by omega) h1 (by omega)
    have e1 : ns.getD (k + 1) 0 = ns[k + 1] := by rw [List.getD_eq_getElem?_getD, List.getElem?_eq_getElem h1]; rfl
    have e2 : ns.getD k 0 = ns[k] := by rw [List.getD_eq_getElem?_getD, List.getElem?_eq_getElem (by omega)]; rfl
    show decide (ns.getD (k + 1) 0 ≤ ns.getD k 0) = true
    rw [e1, e2]
    exact decide_eq_true this
/-- how it answers to is_heap -/
inductive HeapJ (K : PySem.W.Frag) (H : Hp) : V → Bool → Prop
  | no {v : V} (k : KdN H v) : HeapJ K H v false
  | lst {a : Addr} {xs : List V} (h : SqL K H a xs) (k : ∀ x ∈ xs, Kd H x) (l : xs.length ≤ 30000) : HeapJ K H (.ref a) (heapB xs)
theorem HeapJ.ex {b : Bool} (e : Ex H H') (k : HeapJ K H v b) : HeapJ K H' v b := by
  cases k with
  | no k => exact .no (k.ex e)
  | lst h k l => exact .lst (ex_l e h) (fun x hx => (k x hx).ex e) l
theorem kd_ints (ns : List Int) : ∀ x ∈ ns.map V.int, Kd H x := fun x hx => by
  obtain ⟨n, _, rfl⟩ := List.mem_map.mp hx
  exact .inl (.int n)
theorem HeapJ.heap {a : Addr} {ns : List Int} (h : SqL K H a (ns.map V.int)) (hh : IsHeap ns) (hl : ns.length ≤ 30000) : HeapJ K H (.ref a) true := by
  rw [← heapB_heap hh]
  exact .lst h (kd_ints ns) (by rw [List.length_map]; exact hl)
end
end Rh

namespace Rh
open PySem PySem.Spec PyProof.Rows L2 Evl
structure Errs (K : PySem.W.Frag) (mg : Str → Option Value) (Y : Nat → Addr) (YH : Addr) : Prop where
  e0 : ExcT K mg "BadHeap" (Y 0)
  e1 : ExcT K mg "BadLength" (Y 1)
  e2 : ExcT K mg "BadPlace" (Y 2)
  e3 : ExcT K mg "BadParts" (Y 3)
  e4 : ExcT K mg "TooMany" (Y 4)
  mgH : mg "HeapError" = some (.ref YH)
  mgV : mg "ValueError" = none
  is : ∀ i j, i < 5 → j < 5 → PySem.W.kitOne K (.ref (Y j)) (.ref (Y i)) = some (decide (j = i))
  exm : ∀ j, j < 5 → PySem.W.exmOne K (.ref (Y j)) (.ref YH) = some true
theorem Errs.at {K : PySem.W.Frag} {mg : Str → Option Value} {Y : Nat → Addr} {YH : Addr} (Z : Errs K mg Y YH) {j : Nat} (h : j < 5) : ExcC K (Y j) ∧ PySem.W.kitOne K (.ref (Y j)) (.type "ValueError") = some true := by
  rcases (show j = 0 ∨ j = 1 ∨ j = 2 ∨ j = 3 ∨ j = 4 by omega) with rfl | rfl | rfl | rfl | rfl
  · exact ⟨Z.e0.ic, Z.e0.ve⟩
  · exact ⟨Z.e1.ic, Z.e1.ve⟩
  · exact ⟨Z.e2.ic, Z.e2.ve⟩
  · exact ⟨Z.e3.ic, Z.e3.ve⟩
  · exact ⟨Z.e4.ic, Z.e4.ve⟩
def kindsB (j : Nat) : List Bool := [decide (j = 0), decide (j = 1), decide (j = 2), decide (j = 3), decide (j = 4), true]
def lenB : V → Bool
  | .int n => decide (1 ≤ n)
  | _ => false
def fewB : V → Bool
  | .int n => decide (1 ≤ n) && decide (n ≤ 100)
  | _ => false
def placeB (ns : List Int) (r s : V) : Bool := match r, s with
  | .int i, .int j => (decide (0 ≤ i) && decide (i < ns.length)) && (decide (0 ≤ j) && decide (j < ns.getD i.toNat 0))
  | _, _ => false
inductive HJs (K : PySem.W.Frag) (H : Hp) : List V → List Bool → Prop
  | nil : HJs K H [] []
  | cons {x : V} {b : Bool} {xs : List V} {bs : List Bool} (h : HeapJ K H x b) (r : HJs K H xs bs) : HJs K H (x :: xs) (b :: bs)
theorem HJs.ex {K : PySem.W.Frag} {H H' : Hp} {xs : List V} {bs : List Bool} (e : Ex H H') (h : HJs K H xs bs) : HJs K H' xs bs := by
  induction h with
  | nil => exact .nil
  | cons h _ ih => exact .cons (h.ex e) ih
theorem HJs.len {K : PySem.W.Frag} {H : Hp} {xs : List V} {bs : List Bool} (h : HJs K H xs bs) : xs.length = bs.length := by
  induction h with
  | nil => rfl
  | cons _ _ ih => rw [List.length_cons, List.length_cons, ih]
theorem HJs.get {K : PySem.W.Frag} {H : Hp} {xs : List V} {bs : List Bool} (h : HJs K H xs bs) {i : Nat} {x : V} (hx : xs[i]? = some x) : ∃ b, bs[i]? = some b ∧ HeapJ K H x b := by
  induction h generalizing i with
  | nil => cases hx
  | @cons x0 b0 xs0 bs0 h _ ih =>
    cases i with
    | zero =>
      cases hx
      exact ⟨b0, rfl, h⟩
    | succ i =>
      rw [List.getElem?_cons_succ] at hx
      obtain ⟨b, h1, h2⟩ := ih hx
      exact ⟨b, by rw [List.getElem?_cons_succ]; exact h1, h2⟩
def GoodH (K : PySem.W.Frag) (H : Hp) (v : V) (ns : List Int) : Prop := ∃ a, v = .ref a ∧ SqL K H a (ns.map V.int) ∧ IsHeap ns ∧ ns.length ≤ 30000
theorem GoodH.ex {K : PySem.W.Frag} {H H' : Hp} {v : V} {ns : List Int} (e : Ex H H') (g : GoodH K H v ns) : GoodH K H' v ns := let ⟨a, h1, h2, h3⟩ := g; ⟨a, h1, ex_l e h2, h3⟩
theorem GoodH.hj {K : PySem.W.Frag} {H : Hp} {v : V} {ns : List Int} (g : GoodH K H v ns) : HeapJ K H v true := by
  obtain ⟨a, rfl, h1, h2, h3⟩ := g
  exact .heap h1 h2 h3
def PartsBad (K : PySem.W.Frag) (H : Hp) (p : V) (l : Int) : Prop := KdN H p ∨ ∃ a xs, p = .ref a ∧ SqL K H a xs ∧ xs.length ≤ 30000 ∧ (((xs.length : Nat) : Int) ≠ l ∨ ∃ bs, HJs K H xs bs ∧ bs.all id = false)
def PartsOk (K : PySem.W.Frag) (H : Hp) (p : V) (l : Int) : Prop := ∃ a xs bs, p = .ref a ∧ SqL K H a xs ∧ xs.length ≤ 30000 ∧ ((xs.length : Nat) : Int) = l ∧ HJs K H xs bs ∧ bs.all id = true
section
variable (K : PySem.W.Frag) (Y : Nat → Addr)
def sp5_is_whole : Sp := fun vs H Q _ => ∃ v, vs = [v] ∧ Kd H v ∧ RetV (.bl (wholeV v)) H Q
def sp5_is_heap : Sp := fun vs H Q _ => ∃ v b, vs = [v] ∧ HeapJ K H v b ∧ RetV (.bl b) H Q
def sp5_check_heap : Sp := fun vs H Q E => ∃ v b, vs = [v] ∧ HeapJ K H v b ∧ (b = true → RetV .non H Q) ∧ (b = false → RetX (Y 0) H E)
def sp5_check_length : Sp := fun vs H Q E => ∃ v, vs = [v] ∧ Kd H v ∧ (lenB v = true → RetV .non H Q) ∧ (lenB v = false → RetX (Y 1) H E)
def sp5_check_few : Sp := fun vs H Q E => ∃ v, vs = [v] ∧ Kd H v ∧ (fewB v = true → RetV .non H Q) ∧ (fewB v = false → RetX (Y 1) H E)
def sp5_one : Sp := fun vs H _ E => ∃ v, vs = [v] ∧ HeapJ K H v false ∧ RetX (Y 0) H E
def sp5_hook : Sp := fun vs H _ E => ∃ h r s, vs = [h, r, s] ∧ ((HeapJ K H h false ∧ RetX (Y 0) H E) ∨ ∃ ns, GoodH K H h ns ∧ Kd H r ∧ Kd H s ∧ placeB ns r s = false ∧ RetX (Y 2) H E)
def sp5_two : Sp := fun vs H _ E => ∃ h l, vs = [h, l] ∧ ((HeapJ K H h false ∧ RetX (Y 0) H E) ∨ ∃ ns, GoodH K H h ns ∧ Kd H l ∧ lenB l = false ∧ RetX (Y 1) H E)
def NoRim (ns : List Int) (l : Int) (r : V) : Prop := ∀ n, r = .int n → n ∉ rimsH ns l
def sp5_taken : Sp := fun vs H _ E => ∃ h l r, vs = [h, l, r] ∧ ((HeapJ K H h false ∧ RetX (Y 0) H E) ∨ (∃ ns, GoodH K H h ns ∧ Kd H l ∧ lenB l = false ∧ RetX (Y 1) H E) ∨ ∃ ns i, GoodH K H h ns ∧ l = .int i ∧ 1 ≤ i ∧ Kd H r ∧ NoRim ns i r ∧ RetX (Y 2) H E)
def sp5_rims_in : Sp := fun vs H Q E => ∃ h l, vs = [h, l] ∧ ((HeapJ K H h false ∧ RetX (Y 0) H E) ∨ (∃ ns, GoodH K H h ns ∧ Kd H l ∧ lenB l = false ∧ RetX (Y 1) H E) ∨ ∃ ns i, GoodH K H h ns ∧ l = .int i ∧ 1 ≤ i ∧ i.natAbs.log2 < 9000 ∧ RetV (.int (rimsIn ns i)) H Q)
def sp5_parts : Sp := fun vs H Q E => ∃ h l, vs = [h, l] ∧ ((HeapJ K H h false ∧ RetX (Y 0) H E) ∨ (∃ ns, GoodH K H h ns ∧ Kd H l ∧ fewB l = false ∧ RetX (Y 1) H E) ∨
  ∃ a ns i, h = .ref a ∧ H a = some (.lst (ns.map V.int)) ∧ (IsHeap ns ∧ ns.length ≤ 25000 ∧ 1 ≤ i ∧ i ≤ 100) ∧ l = .int i ∧ RetLL (partsOf ns i) H Q)
def sp5_joined : Sp := fun vs H _ E => ∃ h p l, vs = [h, p, l] ∧ ((HeapJ K H h false ∧ RetX (Y 0) H E) ∨ (∃ ns, GoodH K H h ns ∧ Kd H l ∧ fewB l = false ∧ RetX (Y 1) H E) ∨
  ∃ ns i, GoodH K H h ns ∧ l = .int i ∧ 1 ≤ i ∧ i ≤ 100 ∧ (PartsBad K H p i ∨ (PartsOk K H p i ∧ rimsH ns i ≠ [])) ∧ RetX (Y 3) H E)
def sp5_gone (C : Addr) : Sp := fun vs H Q E => ∃ h l, vs = [h, l] ∧ ((HeapJ K H h false ∧ RetX (Y 0) H E) ∨ (∃ ns, GoodH K H h ns ∧ Kd H l ∧ lenB l = false ∧ RetX (Y 1) H E) ∨
  (∃ ns i, GoodH K H h ns ∧ l = .int i ∧ 1 ≤ i ∧ i.natAbs.log2 < 9000 ∧ 1000 < rimsIn ns i ∧ RetX (Y 4) H E) ∨ sp_gone K C [h, l] H Q E)
def sp5_with_heap : Sp := fun vs H _ E => ∃ d v, vs = [.int d, v] ∧ (0 ≤ d ∧ d < 10) ∧ HeapJ K H v false ∧ RetX (Y 0) H E
def sp5_with_length : Sp := fun vs H _ E => ∃ d v, vs = [.int d, v] ∧ (0 ≤ d ∧ d < 7) ∧ Kd H v ∧ (d < 5 → lenB v = false) ∧ fewB v = false ∧ RetX (Y 1) H E
def sp5_with_square : Sp := fun vs H _ E => ∃ h b ns r s, vs = [h, .ref b] ∧ GoodH K H h ns ∧ SqT K H b [r, s] ∧ Kd H r ∧ Kd H s ∧ placeB ns r s = false ∧ RetX (Y 2) H E
def sp5_with_row : Sp := fun vs H _ E => ∃ h b ns i r, vs = [h, .ref b] ∧ GoodH K H h ns ∧ SqT K H b [.int i, r] ∧ 1 ≤ i ∧ Kd H r ∧ NoRim ns i r ∧ RetX (Y 2) H E
def sp5_with_parts : Sp := fun vs H _ E => ∃ h p ns, vs = [h, p] ∧ GoodH K H h ns ∧ (PartsBad K H p 2 ∨ (PartsOk K H p 2 ∧ rimsH ns 2 ≠ [])) ∧ RetX (Y 3) H E
def sp5_too_many : Sp := fun vs H _ E => ∃ h ns i, vs = [h, .int i] ∧ GoodH K H h ns ∧ 1 ≤ i ∧ i.natAbs.log2 < 9000 ∧ 1000 < rimsIn ns i ∧ RetX (Y 4) H E
def sp5_kinds (a : Addr) (cls : Value) : Sp := fun vs H Q _ => ∃ j, vs = [.ref a] ∧ cls = .ref (Y j) ∧ j < 5 ∧ RetL ((kindsB j).map V.bl) H Q
/-- the six defs that are asked -/
def S6 (f0 f1 f2 f3 f4 f5 : Addr) : Addr → Sp → Prop := fun f sp => (f = f0 ∧ sp = sp5_with_heap K Y) ∨ (f = f1 ∧ sp = sp5_with_length Y) ∨ (f = f2 ∧ sp = sp5_with_square K Y) ∨ (f = f3 ∧ sp = sp5_with_row K Y) ∨ (f = f4 ∧ sp = sp5_with_parts K Y) ∨ (f = f5 ∧ sp = sp5_too_many K Y)
def sp5_told (S : Addr → Sp → Prop) : Sp := fun vs H Q _ => ∃ f sp x y j, vs = [.ref f, x, y] ∧ S f sp ∧ SpX sp [x, y] H (Y j) ∧ j < 5 ∧ RetL ((kindsB j).map V.bl) H Q
def sp5_all (S : Addr → Sp → Prop) : Sp := fun vs H Q _ => ∃ f sp x t d j xs, vs = [.ref f, x, .ref t, .ref d] ∧ S f sp ∧ SqL K H t xs ∧ xs.length ≤ 30000 ∧ (∀ y ∈ xs, SpX sp [x, y] H (Y j)) ∧ j < 5 ∧ SqL K H d ((kindsB j).map V.bl) ∧ RetV (.bl true) H Q
/-- the list of what is due -/
def Dues (H : Hp) (d : Addr) : Prop := ∃ ds : List Addr, H d = some (.lst (rs ds)) ∧ ds.length = 5 ∧ ∀ j b, ds[j]? = some b → H b = some (.lst ((kindsB j).map V.bl))
def Odd (H : Hp) (v : V) : Prop := Kd H v ∧ wholeV v = false
def sp5_places : Sp := fun vs H Q _ => ∃ s far d xs, vs = [.ref s, .int far, .ref d] ∧ H s = some (.lst xs) ∧ xs.length = 10 ∧ (∀ x ∈ xs.take 7, Odd H x) ∧ (0 ≤ far ∧ far < 100000000000000000000) ∧ Dues H d ∧ RetV (.bl true) H Q
def sp5_parts_right : Sp := fun vs H Q _ => ∃ far d, vs = [.int far, .ref d] ∧ (0 ≤ far ∧ far < 100000000000000000000) ∧ Dues H d ∧ RetV (.bl true) H Q
end
end Rh

namespace Rh
open PySem PySem.Spec PyProof.Rows L2 Evl
structure DfnZ (P : Program) (w : World) (K : PySem.W.Frag) (mg : Str → Option Value) (base : Heap) (k : Nat) (x : Str) (f : Addr) (fd : FuncData) (ps : List Str) (sp : Addr → Value → Sp) : Prop where
  ok : FnZ P w K mg base k f fd ps sp
  kp : PySem.W.keepIn K (.ref f) = true
  bd : Binds K fd ps []
  gl : mg x = some (.ref f)
theorem fun_okZ {P : Program} {w : World} {K : PySem.W.Frag} {mg : Str → Option Value} {base : Heap} {x qual : Str} {st : Stmt} {f : Addr} {fd : FuncData} {N ps : List Str} {k : Nat} {sp : Addr → Value → Sp} (F : Fun K x qual st f fd) (S : FnScope N ps (defScope st)) (len : ∀ a cls vs H Q E, sp a cls vs H Q E → vs.length = ps.length)
    (hbody : ∀ (cdv : Value) (A : Around) (outer : List Env) (s : Shared) (H : Hp) (vs : List V) (Q : VK) (E : XK) (p : Addr × Obj) (cls : Value), Zc cls none p.2 → (∃ vs, p.2.data = .fields vs) → L2H.RoomH k (A.deeper (envOfC qual (defScope st) s.heap.objs.size f cdv)) → sp p.1 cls vs H Q E →
      ∃ t, PSs (L2H.cxH CX0 P w K mg base N qual (defScope st) f cdv A outer s H E p) (defBody st) t ∧ t { nx := fun _ H' => Q .non H', rt := Q } (L2.start N vs) H) : FnZ P w K mg base (k + 1) f fd ps sp := by
  obtain ⟨oc, od, kV, doc, pm, an, cdv, ct, osl, rfl, lk, hcd⟩ := F.ex
  exact fn_ofZ lk hcd S len fun A outer s H vs Q E p cls hz hf hr hsp => hbody cdv A outer s H vs Q E p cls hz hf hr hsp
section
variable {K : PySem.W.Frag} {Y : Nat → Addr} {σ : L2.St} {H H' : Hp} {ta tb tc te tl : TE} {t : TT} {x y z v h l p r s : V} {i j : Int} {a b : Addr} {ns ms : List Int} {xs ys : List V} {D : Ends} {tg : TA} {E : XK} {S : Addr → Sp → Prop} {sp : Sp}
theorem ev_isE {D a : Addr} {c : V} {cv : Value} {b : Bool} (h : Ev ta σ H (.ref a)) (hc : ∀ u, RelV c u → u = cv) (hk : PySem.W.kitOne K (.ref D) cv = some b) : Ev (tCB (rIsE K D a) (tCons ta (tCons (tC c) tNil))) σ H (.bl b) := fun H1 e Q q =>
  h H1 e _ fun H2 e2 => ⟨c, cv, b, rfl, hc, hk, q H2 e2⟩
theorem dpAll_bls : ∀ bs : List Bool, DpAll K H (bs.map V.bl) (bs.map PyData.bool)
  | [] => .nil
  | n :: r => .cons (.bl n) (dpAll_bls r)
theorem canLay_bls : ∀ bs : List Bool, PyData.canLayAll0 (bs.map PyData.bool) = true
  | [] => by simp only [List.map_nil, PyData.canLayAll0]
  | n :: r => by
    rw [List.map_cons]
    simp only [PyData.canLayAll0, PyData.canLay0, canLay_bls r, Bool.and_self]
theorem depth_bls : ∀ bs : List Bool, PyData.depthAll (bs.map PyData.bool) = 0
  | [] => by simp only [List.map_nil, PyData.depthAll]
  | n :: r => by
    rw [List.map_cons]
    simp only [PyData.depthAll, PyData.depth, depth_bls r, Nat.max_self]
theorem eqvAll_same : ∀ bs : List Bool, PyData.eqvAll (bs.map PyData.bool) (bs.map PyData.bool) = true
  | [] => by simp [PyData.eqvAll]
  | n :: r => by
    rw [List.map_cons]
    simp only [PyData.eqvAll, PyData.eqv, eqvAll_same r]
    cases n <;> rfl
theorem shaped_bls (bs : List Bool) : SeqAt.shaped (.list (bs.map PyData.bool)) = true := by
  unfold SeqAt.shaped
  simp only [PyData.canLay0, canLay_bls, PyData.depth, depth_bls, Bool.true_and]
  decide
theorem ev_eqBls {bs : List Bool} (h1 : EvL ta σ H (bs.map V.bl)) (h2 : Ev tb σ H (.ref b)) (hb : SqL K H b (bs.map V.bl)) : Ev (tOp (rEqD K) ta tb) σ H (.bl true) :=
  ev_opL1 h1 (fun _ e => h2.mono e) fun _ _ hp e => fun H1 e1 Q q => ⟨_, _, .lst (ex_l e1 (sq_of hp)) (dpAll_bls bs), .lst (ex_l (e.trans e1) hb) (dpAll_bls bs), shaped_bls _, shaped_bls _, by
    have : PyData.eqv (.list (bs.map PyData.bool)) (.list (bs.map PyData.bool)) = true := by
      simp only [PyData.eqv]
      exact eqvAll_same bs
    rw [this]
    exact q H1 (Ex.refl H1)⟩
/-- over a list of any values, by place -/
theorem el_cI {k : Nat} {vs : List Nat} (h : Ev tl σ H (.ref a)) (hx : SqL K H a xs) (hz : xs.length ≤ 50000) (hl : ys.length = xs.length) (hw : ∀ x, wipe ((wipe σ vs).set k (some x)) vs = wipe σ vs)
    (he : ∀ (i : Nat) (x y : V), xs[i]? = some x → ys[i]? = some y → Ev te ((wipe σ vs).set k (some x)) H y) : EvL (tLc (iList K tl) (gName k) tYes te vs) σ H ys := fun H0 e Q q => h H0 e _ fun H1 e1 => by
  have e01 := e.trans e1
  refine ⟨a, rfl, ⟨xs, ex_l e01 hx⟩, fun Dl hD => lc_list (xs := xs) (fun i H' => Cg H1 Dl (ys.take i) H') (Cg.start hD) (fun i H' _ p => ex_l (e01.trans p.2.1) hx) (fun i x H' hi p => ⟨hw x, ?_⟩) (fun H' p => ?_)⟩
  · have hil := (List.getElem?_eq_some_iff.mp hi).1
    have hy : ys[i]? = some ys[i] := List.getElem?_eq_getElem (by omega)
    have e2 : ys.take (i + 1) = ys.take i ++ (some ys[i]).toList := by
      rw [List.take_add_one, hy]
    rw [e2]
    exact cg_turn p (by rw [List.length_take]; omega) et_yes fun y hy2 => by
      cases hy2
      exact (he i x _ hi hy).mono (e01.trans p.2.1)
  · rw [← hl, List.take_length] at p
    exact q Dl H' (fresh_back e1 p.1) (e1.trans p.2.1) p.2.2
theorem go_w (k : Kd H v) : SpV sp5_is_whole [v] H (.bl (wholeV v)) := fun _ e Q q E => ⟨v, rfl, k.ex e, q⟩
theorem go_ih {b : Bool} (k : HeapJ K H v b) : SpV (sp5_is_heap K) [v] H (.bl b) := fun _ e Q q E => ⟨v, b, rfl, k.ex e, q⟩
theorem go_ch (k : HeapJ K H v true) : SpV (sp5_check_heap K Y) [v] H .non := fun _ e Q q E => ⟨v, true, rfl, k.ex e, fun _ => q, (fun z => nomatch z)⟩
theorem sx_ch (k : HeapJ K H v false) : SpX (sp5_check_heap K Y) [v] H (Y 0) := fun _ e Q E q => ⟨v, false, rfl, k.ex e, (fun z => nomatch z), fun _ => q⟩
theorem go_cl (k : Kd H v) (hb : lenB v = true) : SpV (sp5_check_length Y) [v] H .non := fun _ e Q q E => ⟨v, rfl, k.ex e, fun _ => q, (fun z => by rw [hb] at z; cases z)⟩
theorem sx_cl (k : Kd H v) (hb : lenB v = false) : SpX (sp5_check_length Y) [v] H (Y 1) := fun _ e Q E q => ⟨v, rfl, k.ex e, (fun z => by rw [hb] at z; cases z), fun _ => q⟩
theorem go_cf (k : Kd H v) (hb : fewB v = true) : SpV (sp5_check_few Y) [v] H .non := fun _ e Q q E => ⟨v, rfl, k.ex e, fun _ => q, (fun z => by rw [hb] at z; cases z)⟩
theorem sx_cf (k : Kd H v) (hb : fewB v = false) : SpX (sp5_check_few Y) [v] H (Y 1) := fun _ e Q E q => ⟨v, rfl, k.ex e, (fun z => by rw [hb] at z; cases z), fun _ => q⟩
theorem sx_one (k : HeapJ K H v false) : SpX (sp5_one K Y) [v] H (Y 0) := fun _ e Q E q => ⟨v, rfl, k.ex e, q⟩
theorem sx_hook0 (k : HeapJ K H h false) : SpX (sp5_hook K Y) [h, r, s] H (Y 0) := fun _ e Q E q => ⟨h, r, s, rfl, .inl ⟨k.ex e, q⟩⟩
theorem sx_hook2 (g : GoodH K H h ns) (kr : Kd H r) (ks : Kd H s) (hp : placeB ns r s = false) : SpX (sp5_hook K Y) [h, r, s] H (Y 2) := fun _ e Q E q => ⟨h, r, s, rfl, .inr ⟨ns, g.ex e, kr.ex e, ks.ex e, hp, q⟩⟩
theorem sx_two0 (k : HeapJ K H h false) : SpX (sp5_two K Y) [h, l] H (Y 0) := fun _ e Q E q => ⟨h, l, rfl, .inl ⟨k.ex e, q⟩⟩
theorem sx_two1 (g : GoodH K H h ns) (k : Kd H l) (hb : lenB l = false) : SpX (sp5_two K Y) [h, l] H (Y 1) := fun _ e Q E q => ⟨h, l, rfl, .inr ⟨ns, g.ex e, k.ex e, hb, q⟩⟩
theorem sx_taken0 (k : HeapJ K H h false) : SpX (sp5_taken K Y) [h, l, r] H (Y 0) := fun _ e Q E q => ⟨h, l, r, rfl, .inl ⟨k.ex e, q⟩⟩
theorem sx_taken1 (g : GoodH K H h ns) (k : Kd H l) (hb : lenB l = false) : SpX (sp5_taken K Y) [h, l, r] H (Y 1) := fun _ e Q E q => ⟨h, l, r, rfl, .inr (.inl ⟨ns, g.ex e, k.ex e, hb, q⟩)⟩
theorem sx_taken2 (g : GoodH K H h ns) (hi : 1 ≤ i) (k : Kd H r) (hn : NoRim ns i r) : SpX (sp5_taken K Y) [h, .int i, r] H (Y 2) := fun _ e Q E q => ⟨h, .int i, r, rfl, .inr (.inr ⟨ns, i, g.ex e, rfl, hi, k.ex e, hn, q⟩)⟩
theorem sx_ri0 (k : HeapJ K H h false) : SpX (sp5_rims_in K Y) [h, l] H (Y 0) := fun _ e Q E q => ⟨h, l, rfl, .inl ⟨k.ex e, q⟩⟩
theorem sx_ri1 (g : GoodH K H h ns) (k : Kd H l) (hb : lenB l = false) : SpX (sp5_rims_in K Y) [h, l] H (Y 1) := fun _ e Q E q => ⟨h, l, rfl, .inr (.inl ⟨ns, g.ex e, k.ex e, hb, q⟩)⟩
theorem go_ri (g : GoodH K H h ns) (hi : 1 ≤ i) (hl : i.natAbs.log2 < 9000) : SpV (sp5_rims_in K Y) [h, .int i] H (.int (rimsIn ns i)) := fun _ e Q q E => ⟨h, .int i, rfl, .inr (.inr ⟨ns, i, g.ex e, rfl, hi, hl, q⟩)⟩
theorem sx_parts0 (k : HeapJ K H h false) : SpX (sp5_parts K Y) [h, l] H (Y 0) := fun _ e Q E q => ⟨h, l, rfl, .inl ⟨k.ex e, q⟩⟩
theorem sx_parts1 (g : GoodH K H h ns) (k : Kd H l) (hb : fewB l = false) : SpX (sp5_parts K Y) [h, l] H (Y 1) := fun _ e Q E q => ⟨h, l, rfl, .inr (.inl ⟨ns, g.ex e, k.ex e, hb, q⟩)⟩
theorem sx_joined0 (k : HeapJ K H h false) : SpX (sp5_joined K Y) [h, p, l] H (Y 0) := fun _ e Q E q => ⟨h, p, l, rfl, .inl ⟨k.ex e, q⟩⟩
theorem sx_joined1 (g : GoodH K H h ns) (k : Kd H l) (hb : fewB l = false) : SpX (sp5_joined K Y) [h, p, l] H (Y 1) := fun _ e Q E q => ⟨h, p, l, rfl, .inr (.inl ⟨ns, g.ex e, k.ex e, hb, q⟩)⟩
theorem PartsBad.ex (e : Ex H H') (k : PartsBad K H p i) : PartsBad K H' p i := by
  rcases k with k | ⟨a, xs, h1, h2, h3, h4⟩
  · exact .inl (k.ex e)
  · refine .inr ⟨a, xs, h1, ex_l e h2, h3, ?_⟩
    rcases h4 with h4 | ⟨bs, h5, h6⟩
    · exact .inl h4
    · exact .inr ⟨bs, h5.ex e, h6⟩
theorem PartsOk.ex (e : Ex H H') (k : PartsOk K H p i) : PartsOk K H' p i := let ⟨a, xs, bs, h1, h2, h3, h4, h5, h6⟩ := k; ⟨a, xs, bs, h1, ex_l e h2, h3, h4, h5.ex e, h6⟩
theorem sx_joined3 (g : GoodH K H h ns) (hi : 1 ≤ i ∧ i ≤ 100) (hp : PartsBad K H p i ∨ (PartsOk K H p i ∧ rimsH ns i ≠ [])) : SpX (sp5_joined K Y) [h, p, .int i] H (Y 3) := fun _ e Q E q => ⟨h, p, .int i, rfl, .inr (.inr ⟨ns, i, g.ex e, rfl, hi.1, hi.2, hp.imp (·.ex e) (fun z => ⟨z.1.ex e, z.2⟩), q⟩)⟩
theorem sx_gone0 {C : Addr} (k : HeapJ K H h false) : SpX (sp5_gone K Y C) [h, l] H (Y 0) := fun _ e Q E q => ⟨h, l, rfl, .inl ⟨k.ex e, q⟩⟩
theorem sx_gone1 {C : Addr} (g : GoodH K H h ns) (k : Kd H l) (hb : lenB l = false) : SpX (sp5_gone K Y C) [h, l] H (Y 1) := fun _ e Q E q => ⟨h, l, rfl, .inr (.inl ⟨ns, g.ex e, k.ex e, hb, q⟩)⟩
theorem sx_gone4 {C : Addr} (g : GoodH K H h ns) (hi : 1 ≤ i) (hl : i.natAbs.log2 < 9000) (hr : 1000 < rimsIn ns i) : SpX (sp5_gone K Y C) [h, .int i] H (Y 4) := fun _ e Q E q => ⟨h, .int i, rfl, .inr (.inr (.inl ⟨ns, i, g.ex e, rfl, hi, hl, hr, q⟩))⟩
theorem sx_with_heap (hd : 0 ≤ i ∧ i < 10) (k : HeapJ K H v false) : SpX (sp5_with_heap K Y) [.int i, v] H (Y 0) := fun _ e Q E q => ⟨i, v, rfl, hd, k.ex e, q⟩
theorem sx_with_length (hd : 0 ≤ i ∧ i < 7) (k : Kd H v) (h1 : i < 5 → lenB v = false) (h2 : fewB v = false) : SpX (sp5_with_length Y) [.int i, v] H (Y 1) := fun _ e Q E q => ⟨i, v, rfl, hd, k.ex e, h1, h2, q⟩
theorem sx_with_square (g : GoodH K H h ns) (hb : SqT K H b [r, s]) (kr : Kd H r) (ks : Kd H s) (hp : placeB ns r s = false) : SpX (sp5_with_square K Y) [h, .ref b] H (Y 2) := fun _ e Q E q => ⟨h, b, ns, r, s, rfl, g.ex e, ex_t e hb, kr.ex e, ks.ex e, hp, q⟩
theorem sx_with_row (g : GoodH K H h ns) (hb : SqT K H b [.int i, r]) (hi : 1 ≤ i) (kr : Kd H r) (hp : NoRim ns i r) : SpX (sp5_with_row K Y) [h, .ref b] H (Y 2) := fun _ e Q E q => ⟨h, b, ns, i, r, rfl, g.ex e, ex_t e hb, hi, kr.ex e, hp, q⟩
theorem sx_with_parts (g : GoodH K H h ns) (hp : PartsBad K H p 2 ∨ (PartsOk K H p 2 ∧ rimsH ns 2 ≠ [])) : SpX (sp5_with_parts K Y) [h, p] H (Y 3) := fun _ e Q E q => ⟨h, p, ns, rfl, g.ex e, hp.imp (·.ex e) (fun z => ⟨z.1.ex e, z.2⟩), q⟩
theorem sx_too_many (g : GoodH K H h ns) (hi : 1 ≤ i) (hl : i.natAbs.log2 < 9000) (hr : 1000 < rimsIn ns i) : SpX (sp5_too_many K Y) [h, .int i] H (Y 4) := fun _ e Q E q => ⟨h, ns, i, rfl, g.ex e, hi, hl, hr, q⟩
theorem el_told {f : Addr} {j : Nat} (h : EvA tg σ H [.ref f, x, y]) (hS : S f sp) (hX : SpX sp [x, y] H (Y j)) (hj : j < 5) : EvL (tCall (sp5_told Y S) [] E tg) σ H ((kindsB j).map V.bl) := fun H1 e Q q => h H1 e _ fun H2 e2 =>
  ⟨f, sp, x, y, j, rfl, hS, hX.ex (e.trans e2), hj, fun p H3 hp e3 h3 => q p H3 (fresh_back e2 hp) (e2.trans e3) h3⟩
theorem go_all {f t d : Addr} {j : Nat} (hS : S f sp) (ht : SqL K H t xs) (hl : xs.length ≤ 30000) (hX : ∀ y ∈ xs, SpX sp [x, y] H (Y j)) (hj : j < 5) (hd : SqL K H d ((kindsB j).map V.bl)) : SpV (sp5_all K Y S) [.ref f, x, .ref t, .ref d] H (.bl true) := fun _ e Q q E =>
  ⟨f, sp, x, t, d, j, xs, rfl, hS, ex_l e ht, hl, fun y hy => (hX y hy).ex e, hj, ex_l e hd, q⟩
theorem ev_chainLL {l : Int} (ha : Ev ta σ H (.int i)) (hb : Ev tb σ H (.int j)) (hc : i ≤ j → Ev tc σ H (.int l)) :
    Ev (tChain (rI0 fun i j => .bl (decide (i ≤ j))) (rI0 fun i j => .bl (decide (i < j))) ta tb tc) σ H (.bl (decide (i ≤ j) && decide (j < l))) := fun H1 e Q q =>
  ha H1 e _ fun H2 e2 => hb H2 (e.trans e2) _ fun H3 e3 => ⟨i, j, rfl, rfl, decide (i ≤ j), rfl, by
    by_cases h : i ≤ j
    · rw [decide_eq_true h] at q ⊢
      exact hc h H3 ((e.trans e2).trans e3) _ fun H4 e4 => ⟨j, l, rfl, rfl, q H4 ((e2.trans e3).trans e4)⟩
    · rw [decide_eq_false h] at q ⊢
      exact q H3 (e2.trans e3)⟩
theorem len_whole (h : wholeV v = false) : lenB v = false := by
  cases v with
  | int n => cases h
  | _ => rfl
theorem few_len (h : lenB v = false) : fewB v = false := by
  cases v with
  | int n =>
    have h2 : decide (1 ≤ n) = false := h
    show (decide (1 ≤ n) && decide (n ≤ 100)) = false
    rw [h2]
    rfl
  | _ => rfl
theorem place_eq (ns : List Int) (r s : V) : placeB ns r s = (wholeV r && (wholeV s && ((decide (0 ≤ intV r) && decide (intV r < ns.length)) && (decide (0 ≤ intV s) && decide (intV s < ns.getD (intV r).toNat 0))))) := by
  cases r with
  | int i =>
    cases s with
    | int j => rfl
    | _ => rfl
  | _ => rfl
end
end Rh

namespace Rh
open PySem PySem.Spec PyProof.Rows L2 Evl
def Mo (G : Hp → V → Prop) : Prop := ∀ H H' v, Ex H H' → G H v → G H' v
def MoP (P : Hp → List V → Prop) : Prop := ∀ H H' v, Ex H H' → P H v → P H' v
/-- still so when another list has changed -/
def St (G : Hp → V → Prop) : Prop := ∀ H p xs ys v, H p = some (.lst xs) → G H v → G (upd H p (.lst ys)) v
/-- some value that is good -/
def EvS (te : TE) (σ : L2.St) (H : Hp) (G : Hp → V → Prop) : Prop := ∀ H1, Ex H H1 → ∀ Q : VK, (∀ v H2, Ex H1 H2 → G H2 v → Q v H2) → te σ H1 Q
def EvSP (ta : TA) (σ : L2.St) (H : Hp) (P : Hp → List V → Prop) : Prop := ∀ H1, Ex H H1 → ∀ Q : List V → Hp → Prop, (∀ vs H2, Ex H1 H2 → P H2 vs → Q vs H2) → ta σ H1 Q
def AllG (G : Hp → V → Prop) (n : Nat) (H : Hp) (xs : List V) : Prop := xs.length = n ∧ ∀ x ∈ xs, G H x
/-- a list, allowed at the addresses N, of which P holds -/
def Lst (N : Addr → Prop) (P : Hp → List V → Prop) (H : Hp) (v : V) : Prop := ∃ a xs, v = .ref a ∧ N a ∧ H a = some (.lst xs) ∧ P H xs
def any : Addr → Prop := fun _ => True
def new (H : Hp) : Addr → Prop := fun a => H a = none
section
variable {K : PySem.W.Frag} {Y : Nat → Addr} {σ : L2.St} {H H' : Hp} {ta tb tc te tl t0 t1 t2 t3 : TE} {t : TT} {x y z v h l p r s : V} {i j : Int} {a b : Addr} {ns ms : List Int} {xs ys : List V} {D : Ends} {tg tr : TA} {tu tz : TS} {E : XK} {S : Addr → Sp → Prop} {sp : Sp} {G G1 G2 : Hp → V → Prop} {P P1 P2 : Hp → List V → Prop} {N N1 N2 : Addr → Prop} {n m : Nat}
theorem AllG.mo (m : Mo G) : MoP (AllG G n) := fun _ _ _ e h => ⟨h.1, fun x hx => m _ _ _ e (h.2 x hx)⟩
theorem Lst.mo (m : MoP P) : Mo (Lst N P) := fun _ _ _ e h => let ⟨a, xs, h1, h2, h3, h4⟩ := h; ⟨a, xs, h1, h2, e _ _ h3, m _ _ _ e h4⟩
theorem Lst.any (h : Lst N P H v) : Lst any P H v := let ⟨a, xs, h1, h2, h3, h4⟩ := h; ⟨a, xs, h1, trivial, h3, h4⟩
theorem mo_kd : Mo Kd := fun _ _ _ e k => k.ex e
theorem EvS.mono (e : Ex H H') (h : EvS te σ H G) : EvS te σ H' G := fun H1 a Q q => h H1 (e.trans a) Q q
theorem EvSP.mono (e : Ex H H') (h : EvSP tg σ H P) : EvSP tg σ H' P := fun H1 a Q q => h H1 (e.trans a) Q q
theorem es_imp (h : EvS te σ H G) (i : ∀ H1 v, Ex H H1 → G H1 v → G1 H1 v) : EvS te σ H G1 := fun H1 e Q q => h H1 e Q fun v H2 e2 g => q v H2 e2 (i H2 v (e.trans e2) g)
theorem es_of (h : Ev te σ H v) (g : ∀ H1, Ex H H1 → G H1 v) : EvS te σ H G := fun H1 e Q q => h H1 e Q fun H2 e2 => q v H2 e2 (g H2 (e.trans e2))
theorem es_kd (h : Ev te σ H v) (g : Kd H v) : EvS te σ H Kd := es_of h fun H1 e => g.ex e
theorem es_L (h : EvL te σ H xs) (g : ∀ H1, Ex H H1 → P H1 xs) : EvS te σ H (Lst (new H) P) := fun H1 e Q q => h H1 e Q fun p H2 hp e2 h2 => q (.ref p) H2 e2 ⟨p, xs, rfl, fresh_back e hp, h2, g H2 (e.trans e2)⟩
theorem esp_nil : EvSP tNil σ H (AllG G 0) := fun H1 _ Q q => q [] H1 (Ex.refl H1) ⟨rfl, fun _ h => by cases h⟩
theorem esp_cons (mG : Mo G) (h : EvS ta σ H G) (r : EvSP tr σ H (AllG G n)) : EvSP (tCons ta tr) σ H (AllG G (n + 1)) := fun H1 e Q q => h H1 e _ fun v H2 e2 g => r H2 (e.trans e2) _ fun vs H3 e3 w => q (v :: vs) H3 (e2.trans e3) ⟨by rw [List.length_cons, w.1], fun x hx => by
  rcases List.mem_cons.mp hx with rfl | hx
  · exact mG _ _ _ e3 g
  · exact w.2 x hx⟩
/-- two, of two kinds -/
def Two (G1 G2 : Hp → V → Prop) (H : Hp) (vs : List V) : Prop := ∃ x y, vs = [x, y] ∧ G1 H x ∧ G2 H y
theorem Two.mo (m1 : Mo G1) (m2 : Mo G2) : MoP (Two G1 G2) := fun _ _ _ e h => let ⟨x, y, h1, h2, h3⟩ := h; ⟨x, y, h1, m1 _ _ _ e h2, m2 _ _ _ e h3⟩
theorem esp_two (mG : Mo G1) (h1 : EvS ta σ H G1) (h2 : EvS tb σ H G2) : EvSP (tCons ta (tCons tb tNil)) σ H (Two G1 G2) := fun H1 e Q q => h1 H1 e _ fun v H2 e2 g => h2 H2 (e.trans e2) _ fun u H3 e3 g3 => q [v, u] H3 (e2.trans e3) ⟨v, u, rfl, mG _ _ _ e3 g, g3⟩
theorem es_lst (mP : MoP P) (h : EvSP tg σ H P) (hz : ∀ H vs, P H vs → vs.length ≤ 100000) : EvS (tLst tg) σ H (Lst (new H) P) := fun H1 e Q q => h H1 e _ fun vs H2 e2 w => ⟨sz_of (hz H2 vs w), fun p hp => q (.ref p) _ (e2.trans (Ex.new hp)) ⟨p, vs, rfl, fresh_back (e.trans e2) hp, upd_same, mP _ _ _ (Ex.new hp) w⟩⟩
theorem es_lstA (mG : Mo G) (h : EvSP tg σ H (AllG G n)) (hz : n ≤ 100000) : EvS (tLst tg) σ H (Lst (new H) (AllG G n)) := es_lst (AllG.mo mG) h fun _ vs w => by rw [w.1]; exact hz
theorem es_any (h : EvS te σ H (Lst N P)) : EvS te σ H (Lst any P) := es_imp h fun _ _ _ => Lst.any
/-- a tuple -/
def Tup (P : Hp → List V → Prop) (H : Hp) (v : V) : Prop := ∃ a xs, v = .ref a ∧ H a = some (.tup xs) ∧ P H xs
theorem Tup.mo (m : MoP P) : Mo (Tup P) := fun _ _ _ e h => let ⟨a, xs, h1, h3, h4⟩ := h; ⟨a, xs, h1, e _ _ h3, m _ _ _ e h4⟩
theorem es_tup (mP : MoP P) (h : EvSP tg σ H P) (hz : ∀ H vs, P H vs → vs.length ≤ 100000) : EvS (tTup tg) σ H (Tup P) := fun H1 e Q q => h H1 e _ fun vs H2 e2 w => ⟨sz_of (hz H2 vs w), fun p hp => q (.ref p) _ (e2.trans (Ex.new hp)) ⟨p, vs, rfl, upd_same, mP _ _ _ (Ex.new hp) w⟩⟩
theorem es_tupA (mG : Mo G) (h : EvSP tg σ H (AllG G n)) (hz : n ≤ 100000) : EvS (tTup tg) σ H (Tup (AllG G n)) := es_tup (AllG.mo mG) h fun _ vs w => by rw [w.1]; exact hz
theorem es_dic : EvS tDNewK σ H KdN := fun H1 _ Q q => fun p hp => q (.ref p) _ (Ex.new hp) (.dic upd_same)
/-- two lists, one behind the other -/
theorem es_cat {n m : Nat} (mG : Mo G) (h1 : EvS ta σ H (Lst N1 (AllG G n))) (h2 : EvS tb σ H (Lst N2 (AllG G m))) (hz : n + m ≤ 100000) : EvS (tOp rCat ta tb) σ H (Lst (new H) (AllG G (n + m))) := fun H1 e Q q =>
  h1 H1 e _ fun v H2 e2 w => h2 H2 (e.trans e2) _ fun u H3 e3 w2 => by
    obtain ⟨a, xs, rfl, _, ha, hx⟩ := w
    obtain ⟨b, ys, rfl, _, hb, hy⟩ := w2
    refine ⟨a, b, xs, ys, rfl, rfl, e3 _ _ ha, hb, sz_of (by rw [hx.1, hy.1]; exact hz), fun p hp => q (.ref p) _ ((e2.trans e3).trans (Ex.new hp)) ⟨p, _, rfl, fresh_back ((e.trans e2).trans e3) hp, upd_same, by rw [List.length_append, hx.1, hy.1], fun x hx2 => ?_⟩⟩
    rcases List.mem_append.mp hx2 with hx2 | hx2
    · exact mG _ _ _ (e3.trans (Ex.new hp)) (hx.2 x hx2)
    · exact mG _ _ _ (Ex.new hp) (hy.2 x hx2)
/-- the same, of lists of any kind -/
theorem es_catP (mP : MoP P1) (m2 : MoP P2) (h1 : EvS ta σ H (Lst N1 P1)) (h2 : EvS tb σ H (Lst N2 P2)) (z1 : ∀ H vs, P1 H vs → vs.length ≤ 50000) (z2 : ∀ H vs, P2 H vs → vs.length ≤ 50000) :
    EvS (tOp rCat ta tb) σ H (Lst (new H) fun H zs => ∃ xs ys, zs = xs ++ ys ∧ P1 H xs ∧ P2 H ys) := fun H1 e Q q =>
  h1 H1 e _ fun v H2 e2 w => h2 H2 (e.trans e2) _ fun u H3 e3 w2 => by
    obtain ⟨a, xs, rfl, _, ha, hx⟩ := w
    obtain ⟨b, ys, rfl, _, hb, hy⟩ := w2
    have l1 := z1 _ _ hx
    have l2 := z2 _ _ hy
    exact ⟨a, b, xs, ys, rfl, rfl, e3 _ _ ha, hb, sz_of (by omega), fun p hp => q (.ref p) _ ((e2.trans e3).trans (Ex.new hp)) ⟨p, _, rfl, fresh_back ((e.trans e2).trans e3) hp, upd_same, xs, ys, rfl, mP _ _ _ (e3.trans (Ex.new hp)) hx, m2 _ _ _ (Ex.new hp) hy⟩⟩
/-- an item of a tuple -/
theorem es_ixt {k : Nat} (h1 : EvS ta σ H (Tup (AllG G n))) (h2 : Ev tb σ H (.int (k : Int))) (hk : k < n) (mG : Mo G) : EvS (tOp (rIxT K) ta tb) σ H G := fun H1 e Q q => h1 H1 e _ fun v H2 e2 w => h2 H2 (e.trans e2) _ fun H3 e3 => by
  obtain ⟨a, xs, rfl, ha, hx⟩ := w
  have hk2 : k < xs.length := by rw [hx.1]; exact hk
  exact ⟨a, xs, (k : Int), xs[k], rfl, rfl, st_of (e3 _ _ ha), atI_nat (List.getElem?_eq_getElem hk2), q _ H3 (e2.trans e3) (mG _ _ _ e3 (hx.2 _ (List.getElem_mem hk2)))⟩
theorem kdn_mut {xs ys : List V} (hp : H a = some (.lst xs)) (k : KdN H v) : KdN (upd H a (.lst ys)) v := by
  cases k with
  | non => exact .non
  | bl b => exact .bl b
  | int i => exact .int i
  | str z => exact .str z
  | tup h => exact .tup (by rw [upd_ne fun z => by rw [z, hp] at h; cases h]; exact h)
  | dic h => exact .dic (by rw [upd_ne fun z => by rw [z, hp] at h; cases h]; exact h)
theorem kd_mut {xs ys : List V} (hp : H a = some (.lst xs)) (k : Kd H v) : Kd (upd H a (.lst ys)) v := by
  rcases k with k | ⟨b, zs, rfl, h⟩
  · exact .inl (kdn_mut hp k)
  · by_cases e : b = a
    · subst e
      exact .inr ⟨b, ys, rfl, upd_same⟩
    · exact .inr ⟨b, zs, rfl, by rw [upd_ne e]; exact h⟩
/-- a pair -/
def Pair (R : V → V → Prop) (H : Hp) (v : V) : Prop := ∃ a x y, v = .ref a ∧ H a = some (.tup [x, y]) ∧ Kd H x ∧ Kd H y ∧ R x y
theorem Pair.mo {R : V → V → Prop} : Mo (Pair R) := fun _ _ _ e h => let ⟨a, x, y, h1, h2, h3, h4, h5⟩ := h; ⟨a, x, y, h1, e _ _ h2, h3.ex e, h4.ex e, h5⟩
theorem Pair.st {R : V → V → Prop} : St (Pair R) := fun H p xs ys v hp h => by
  obtain ⟨a, x, y, rfl, h2, h3, h4, h5⟩ := h
  exact ⟨a, x, y, rfl, by rw [upd_ne fun z => by rw [z, hp] at h2; cases h2]; exact h2, kd_mut hp h3, kd_mut hp h4, h5⟩
theorem es_pair {R : V → V → Prop} (h1 : Ev ta σ H x) (h2 : Ev tb σ H y) (k1 : Kd H x) (k2 : Kd H y) (hR : R x y) : EvS (tTup (tCons ta (tCons tb tNil))) σ H (Pair R) := fun H1 e Q q => h1 H1 e _ fun H2 e2 => h2 H2 (e.trans e2) _ fun H3 e3 =>
  ⟨Nat.le_of_ble_eq_true rfl, fun p hp => q (.ref p) _ ((e2.trans e3).trans (Ex.new hp)) ⟨p, x, y, rfl, upd_same, k1.ex (((e.trans e2).trans e3).trans (Ex.new hp)), k2.ex (((e.trans e2).trans e3).trans (Ex.new hp)), hR⟩⟩
def CgS (H : Hp) (Dl : Addr) (n : Nat) (G : Hp → V → Prop) (H' : Hp) : Prop := H Dl = none ∧ Ex H H' ∧ ∃ ys, H' Dl = some (.lst ys) ∧ AllG G n H' ys
theorem CgS.start {Dl : Addr} (h : H Dl = none) : CgS H Dl 0 G (upd H Dl (.lst [])) := ⟨h, Ex.new h, [], upd_same, rfl, fun _ h => by cases h⟩
theorem cgs_turn {σ2 : L2.St} {Dl : Addr} (mG : Mo G) (sG : St G) (p : CgS H Dl n G H') (hz : n < 100000) (he : EvS te σ2 H' G) :
    tYes σ2 H' fun b H3 => if b = true then te σ2 H3 fun y H4 => ∃ acc, H4 Dl = some (.lst acc) ∧ acc.length < sizeLine ∧ CgS H Dl (n + 1) G (upd H4 Dl (.lst (acc ++ [y]))) else CgS H Dl (n + 1) G H3 := by
  obtain ⟨p1, p2, ys, p3, p4, p5⟩ := p
  show te σ2 H' fun y H4 => ∃ acc, H4 Dl = some (.lst acc) ∧ acc.length < sizeLine ∧ CgS H Dl (n + 1) G (upd H4 Dl (.lst (acc ++ [y])))
  refine he H' (Ex.refl H') _ fun y H4 e4 g => ⟨ys, e4 _ _ p3, sz_lt (by omega), p1, (p2.trans e4).mut p1, ys ++ [y], upd_same, by rw [List.length_append, p4]; rfl, fun x hx => ?_⟩
  rcases List.mem_append.mp hx with hx | hx
  · exact sG _ _ _ _ _ (e4 _ _ p3) (mG _ _ _ e4 (p5 x hx))
  · have : x = y := by simpa using hx
    rw [this]
    exact sG _ _ _ _ _ (e4 _ _ p3) g
theorem es_lc {k : Nat} {vs : List Nat} (mG : Mo G) (m1 : Mo G1) (sG : St G) (h : EvS tl σ H (Lst N (AllG G1 n))) (hz : n ≤ 50000) (hw : ∀ x, wipe ((wipe σ vs).set k (some x)) vs = wipe σ vs)
    (he : ∀ H1 x, Ex H H1 → G1 H1 x → EvS te ((wipe σ vs).set k (some x)) H1 G) : EvS (tLc (iList K tl) (gName k) tYes te vs) σ H (Lst (new H) (AllG G n)) := fun H0 e Q q => h H0 e _ fun v H1 e1 w => by
  obtain ⟨a, xs, rfl, _, ha, hx, hg⟩ := w
  refine ⟨a, rfl, ⟨xs, sq_of ha⟩, fun Dl hD => lc_list (xs := xs) (fun i H' => CgS H1 Dl i G H') (CgS.start hD) (fun i H' _ p => sq_of (p.2.1 _ _ ha)) (fun i x H' hi p => ⟨hw x, ?_⟩) (fun H' p => ?_)⟩
  · have hil := (List.getElem?_eq_some_iff.mp hi).1
    exact cgs_turn mG sG p (by omega) (he H' x ((e.trans e1).trans p.2.1) (m1 _ _ _ p.2.1 (hg x (List.mem_of_getElem? hi))))
  · obtain ⟨p1, p2, ys, p3, p4⟩ := p
    rw [hx] at p4
    exact q (.ref Dl) H' (e1.trans p2) ⟨Dl, ys, rfl, fresh_back (e.trans e1) p1, p3, p4⟩
theorem q_asgS {k : Nat} (h : EvS te σ H G) (q : ∀ v H1, Ex H H1 → G H1 v → tz D (σ.set k (some v)) H1) : tSeq (tAsg te (gName k)) tz D σ H := h H (Ex.refl H) _ q
/-- x = [..], told as it stood before the list was there -/
theorem q_asgSP {k : Nat} (h : EvSP tg σ H P) (hz : ∀ H vs, P H vs → vs.length ≤ 100000) (q : ∀ p vs H1 H2, Ex H H1 → H1 p = none → Ex H1 H2 → H2 p = some (.lst vs) → P H1 vs → tz D (σ.set k (some (.ref p))) H2) : tSeq (tAsg (tLst tg) (gName k)) tz D σ H :=
  h H (Ex.refl H) _ fun vs H1 e w => ⟨sz_of (hz H1 vs w), fun p hp => q p vs H1 _ e hp (Ex.new hp) upd_same w⟩
theorem s_appS {l : Addr} {xs : List V} (hl : H l = some (.lst xs)) (ha : Ev ta σ H (.ref l)) (h : EvS te σ H G) (hz : xs.length < 100000) (k : ∀ v H1, Ex H H1 → G H1 v → D.nx σ (upd H1 l (.lst (xs ++ [v])))) :
    tDrop (tBM K "list" rAppend ta (tCons te tNil)) D σ H := ha H (Ex.refl H) _ fun H1 e1 => ⟨Or.inl ⟨rfl, xs, sq_of (e1 l _ hl)⟩, h H1 e1 _ fun v H2 e2 g => ⟨l, xs, v, rfl, rfl, e2 l _ (e1 l _ hl), sz_lt hz, k v H2 (e1.trans e2) g⟩⟩
/-- for x in (some, ..) -/
theorem q_forSP {k : Nat} (mG : Mo G) (h : EvSP tg σ H (AllG G n)) (hn : n ≤ 100000) (Pv : Hp → L2.St → Hp → Prop) (hE : ∀ H0 σ' H', Pv H0 σ' H' → Ex H0 H') (h0 : ∀ H1, Ex H H1 → Pv H1 σ H1)
    (hs : ∀ H0 x σ' H', G H0 x → Ex H H0 → Pv H0 σ' H' → tu { D with nx := Pv H0, ct := Pv H0, bk := tz D } (σ'.set k (some x)) H') (hd : ∀ H0 σ' H', Ex H H0 → Pv H0 σ' H' → tz D σ' H') : tSeq (tFor (iTup K (tTup tg)) (gName k) tu) tz D σ H :=
  h H (Ex.refl H) _ fun vs H1 e w => ⟨sz_of (by rw [w.1]; exact hn), fun T hT => ⟨T, rfl, ⟨_, .inl (.inl upd_same)⟩,
    for_tup (D := { D with nx := tz D }) (xs := vs) (fun _ => Pv (upd H1 T (.tup vs))) (h0 _ (e.trans (Ex.new hT))) (fun i σ' H' _ q => .inl (.inl (hE _ _ _ q _ _ upd_same))) (fun i x σ' H' hi q =>
      hs _ x σ' H' (mG _ _ _ (Ex.new hT) (w.2 x (List.mem_of_getElem? hi))) (e.trans (Ex.new hT)) q) (fun σ' H' q => hd _ σ' H' (e.trans (Ex.new hT)) q)⟩⟩
/-- for k in range(lo, hi, step) -/
theorem q_forRC {k m : Nat} {lo hi c : Int} (h : EvA tg σ H [.int lo, .int hi, .int c]) (hc : RgC lo hi c m) (Pv : Nat → L2.St → Hp → Prop) (h0 : ∀ H1, Ex H H1 → Pv 0 σ H1)
    (hs : ∀ (i : Nat) σ' H', i < m → Pv i σ' H' → tu { D with nx := Pv (i + 1), ct := Pv (i + 1), bk := tz D } (σ'.set k (some (.int (lo + (i : Int) * c)))) H') (hd : ∀ σ' H', Pv m σ' H' → tz D σ' H') : tSeq (tFor (iRng3 tg) (gName k) tu) tz D σ H :=
  h H (Ex.refl H) _ fun H1 e => ⟨lo, hi, c, m, rfl, hc, for_rangeC (D := { D with nx := tz D }) Pv (h0 H1 e) (fun i σ' H' hi p => hs i σ' H' hi p) hd⟩
def Asked (sp : Sp) (C : Addr) (X : Hp → V → Prop) (H : Hp) (y : V) : Prop := ∀ H', Ex H H' → ∀ x, X H' x → SpX sp [x, y] H' C
theorem Asked.mo {C : Addr} {X : Hp → V → Prop} : Mo (Asked sp C X) := fun _ _ _ e h H2 e2 => h H2 (e.trans e2)
theorem ev_all {f b : Addr} {j n : Nat} {X : Hp → V → Prop} (mX : Mo X) (mG : Mo G) (hS : S f sp) (hj : j < 5) (hn : n ≤ 30000) (h0 : Ev t0 σ H (.ref f)) (h1 : EvS t1 σ H X) (h2 : EvS t2 σ H (Lst N (AllG G n))) (hG : ∀ H y, G H y → Asked sp (Y j) X H y) (h3 : Ev t3 σ H (.ref b)) (hb : SqL K H b ((kindsB j).map V.bl)) :
    Ev (tCall (sp5_all K Y S) [] E (tCons t0 (tCons t1 (tCons t2 (tCons t3 tNil))))) σ H (.bl true) := fun H1 e Q q => h0 H1 e _ fun H2 e2 => h1 H2 (e.trans e2) _ fun x H3 e3 w => h2 H3 ((e.trans e2).trans e3) _ fun v H4 e4 u => h3 H4 (((e.trans e2).trans e3).trans e4) _ fun H5 e5 => by
  obtain ⟨p, xs, rfl, _, hp, hl, hx⟩ := u
  refine ⟨f, sp, x, p, b, j, xs, rfl, hS, sq_of (e5 _ _ hp), by omega, fun y hy => ?_, hj, ex_l ((((e.trans e2).trans e3).trans e4).trans e5) hb, fun H6 e6 => q H6 ((((e2.trans e3).trans e4).trans e5).trans e6)⟩
  exact hG H4 y (hx y hy) H5 e5 x (mX _ _ _ (e4.trans e5) w)
theorem Dues.ex {d : Addr} (e : Ex H H') (u : Dues H d) : Dues H' d := let ⟨ds, h1, h2, h3⟩ := u; ⟨ds, e _ _ h1, h2, fun j b hb => e _ _ (h3 j b hb)⟩
theorem ev_due {d : Addr} {j : Nat} (u : Dues H d) (hj : j < 5) (h : Ev ta σ H (.ref d)) (hb : Ev tb σ H (.int (j : Int))) : ∃ b, SqL K H b ((kindsB j).map V.bl) ∧ Ev (tOp (rIxL K) ta tb) σ H (.ref b) := by
  obtain ⟨ds, h1, h2, h3⟩ := u
  have hd : ds[j]? = some (ds[j]'(by omega)) := List.getElem?_eq_getElem (by omega)
  exact ⟨_, sq_of (h3 j _ hd), ev_ixl h (sq_of h1) hb (atI_rs hd)⟩
end
end Rh

namespace Rh
open PySem PySem.Spec PyProof.Rows L2 Evl
def KdR (R : V → Prop) (H : Hp) (v : V) : Prop := Kd H v ∧ R v
theorem mo_kdr {R : V → Prop} : Mo (KdR R) := fun _ _ _ e h => ⟨h.1.ex e, h.2⟩
theorem mo_true : Mo fun _ _ => True := fun _ _ _ _ _ => trivial
def smallR (k : Nat) : List Int := [3, 1] ++ List.replicate k 1
theorem smallR_len (k : Nat) : (smallR k).length = 2 + k := by
  unfold smallR
  rw [List.length_append, List.length_replicate]
  rfl
theorem smallR_heap {k : Nat} (h : k < 5) : IsHeap (smallR k) := by
  rcases (show k = 0 ∨ k = 1 ∨ k = 2 ∨ k = 3 ∨ k = 4 by omega) with rfl | rfl | rfl | rfl | rfl <;> exact isHeap_dec (by decide) (by decide)
theorem isHeap_one {n : Int} (h : 0 < n) : IsHeap [n] := ⟨fun x hx => by
  have : x = n := by simpa using hx
  omega, List.pairwise_singleton _ _⟩
theorem place_r {ns : List Int} {r s : V} (h : wholeV r = false) : placeB ns r s = false := by
  rw [place_eq, h]
  rfl
theorem place_s {ns : List Int} {r s : V} (h : wholeV s = false) : placeB ns r s = false := by
  rw [place_eq, h]
  simp
theorem place_rI {ns : List Int} {i j : Int} (h : i < 0 ∨ (ns.length : Int) ≤ i) : placeB ns (.int i) (.int j) = false := by
  show ((decide (0 ≤ i) && decide (i < ns.length)) && _) = false
  have : (decide (0 ≤ i) && decide (i < (ns.length : Int))) = false := by
    rw [Bool.and_eq_false_iff]
    rcases h with h | h
    · exact .inl (decide_eq_false (by omega))
    · exact .inr (decide_eq_false (by omega))
  rw [this]
  rfl
theorem place_sI {ns : List Int} {i j : Int} (h : j < 0 ∨ ns.getD i.toNat 0 ≤ j) : placeB ns (.int i) (.int j) = false := by
  show (_ && (decide (0 ≤ j) && decide (j < ns.getD i.toNat 0))) = false
  have : (decide (0 ≤ j) && decide (j < ns.getD i.toNat 0)) = false := by
    rw [Bool.and_eq_false_iff]
    rcases h with h | h
    · exact .inl (decide_eq_false (by omega))
    · exact .inr (decide_eq_false (by omega))
  rw [this, Bool.and_false]
theorem norim_odd {ns : List Int} {l : Int} {r : V} (h : wholeV r = false) : NoRim ns l r := fun n e => by
  rw [e] at h
  cases h
theorem norim_int {ns : List Int} {l i : Int} (h : i ∉ rimsH ns l) : NoRim ns l (.int i) := fun n e => by
  cases e
  exact h
def row5 : List Int := [3, 2, 2, 1, 1]
theorem row5_heap : IsHeap row5 := isHeap_dec (by decide) (by decide)
theorem row5_two : rimsH row5 2 = [1, 3] := by decide
theorem row5_one : rimsH row5 1 = [0, 2, 4] := by decide
theorem row5_four : rimsH row5 4 = [0, 2] := by decide
theorem row5_far {l r : Int} (h : 8 ≤ l) : r ∉ rimsH row5 l := fun hr => by
  obtain ⟨i, _, m, hm, hl, _⟩ := mem_rimsM.mp hr
  have hm := List.mem_of_getElem? hm
  have hm : m ∈ ([7, 5, 4, 2, 1] : List Int) := hm
  simp only [List.mem_cons, List.not_mem_nil, or_false] at hm
  omega
theorem rim_one {n l : Int} (h : l ≤ n) (h0 : 0 < l) : rimsH [n] l ≠ [] := by
  have : (0 : Int) ∈ rimsH [n] l := mem_rimsM.mpr ⟨0, rfl, n + 0, rfl, by omega, by
    show n + 0 - l ∉ [n + 0]
    simp only [List.mem_cons, List.not_mem_nil, or_false]
    omega⟩
  intro e
  rw [e] at this
  cases this
theorem rims_single (n l : Int) : rimsIn [n] l = n / l := by
  show ((n + 0) / l - ((cnt [] l ((n + 0) % l) : Nat) : Int)) + 0 = n / l
  rw [cnt_nil]
  simp
theorem parts_nil (l : Int) : partsOf [] l = List.replicate l.toNat [] := by
  have e : padM [] l = [] := by
    have h0 : padN [] l = 0 := by
      show (-(0 : Int) % l).toNat = 0
      simp
    unfold padM
    rw [h0, pad_zero]
    rfl
  have e2 : ∀ r : Int, partOf [] l r = [] := fun r => by
    unfold partOf
    rw [e]
    show heapOf [] = []
    rw [heapOf_run]
    rfl
  unfold partsOf
  rw [List.map_congr_left (g := fun _ => ([] : List Int)) fun r _ => e2 _]
  rw [List.map_const', List.length_range]
theorem kinds_row {k : Nat} (h : k < 5) : [V.bl (decide ((k : Int) = 0)), .bl (decide ((k : Int) = 1)), .bl (decide ((k : Int) = 2)), .bl (decide ((k : Int) = 3)), .bl (decide ((k : Int) = 4)), .bl true] = (kindsB k).map V.bl := by
  rcases (show k = 0 ∨ k = 1 ∨ k = 2 ∨ k = 3 ∨ k = 4 by omega) with rfl | rfl | rfl | rfl | rfl <;> rfl
def turns (l : Nat) : Nat := (Builtin.Range.rangeSize 0 (l : Int) (1 + (l : Int) / 6)).toNat
def stepOk (l : Nat) : Bool := Builtin.Range.small 0 (l : Int) (1 + (l : Int) / 6) && (decide (Builtin.Range.rangeSize 0 (l : Int) (1 + (l : Int) / 6) = (turns l : Nat)) && (decide (turns l ≤ 100) && (List.range (turns l)).all fun i => decide (((i : Nat) : Int) * (1 + (l : Int) / 6) < l)))
theorem step_all : (List.range 100).all stepOk = true := by decide +kernel
theorem step_ok {l : Nat} (h : l < 100) : RgC 0 (l : Int) (1 + (l : Int) / 6) (turns l) ∧ turns l ≤ 100 ∧ ∀ i : Nat, i < turns l → ((i : Nat) : Int) * (1 + (l : Int) / 6) < l := by
  have h1 := List.all_eq_true.mp step_all l (List.mem_range.mpr h)
  unfold stepOk at h1
  rw [Bool.and_eq_true, Bool.and_eq_true, Bool.and_eq_true] at h1
  obtain ⟨h2, h3, h4, h5⟩ := h1
  refine ⟨⟨by omega, by omega, h2, of_decide_eq_true h3⟩, of_decide_eq_true h4, fun i hi => of_decide_eq_true (List.all_eq_true.mp h5 i (List.mem_range.mpr hi))⟩
def BadJ (H : Hp) (x : V) : Prop := KdN H x ∨ ∃ a xs, x = .ref a ∧ H a = some (.lst xs) ∧ (∀ v ∈ xs, Kd H v) ∧ xs.length ≤ 30000 ∧ heapB xs = false
section
variable {K : PySem.W.Frag} {Y : Nat → Addr} {mg : Str → Option Value} {C CA : Addr} {σ : L2.St} {H H' : Hp} {ta tb tc te tl t0 t1 t2 t3 : TE} {t : TT} {x y z v h l p r s : V} {i j : Int} {a b d : Addr} {ns ms : List Int} {xs ys : List V} {D : Ends} {tg tr : TA} {tu tz : TS} {E : XK} {S : Addr → Sp → Prop} {sp : Sp} {G G1 G2 : Hp → V → Prop} {P P1 P2 : Hp → List V → Prop} {N N1 N2 : Addr → Prop} {n m : Nat}
theorem BadJ.ex (e : Ex H H') (w : BadJ H x) : BadJ H' x := by
  rcases w with k | ⟨a, xs, h1, h2, h3, h4⟩
  · exact .inl (k.ex e)
  · exact .inr ⟨a, xs, h1, e _ _ h2, fun v hv => (h3 v hv).ex e, h4⟩
theorem mo_bad : Mo BadJ := fun _ _ _ e w => w.ex e
theorem BadJ.mut {xs ys : List V} (hp : H a = some (.lst xs)) (w : BadJ H x) (hx : x ≠ .ref a) : BadJ (upd H a (.lst ys)) x := by
  rcases w with k | ⟨b, zs, rfl, h2, h3, h4⟩
  · exact .inl (kdn_mut hp k)
  · have hb : b ≠ a := fun e => hx (by rw [e])
    exact .inr ⟨b, zs, rfl, by rw [upd_ne hb]; exact h2, fun v hv => kd_mut hp (h3 v hv), h4⟩
theorem BadJ.ne (w : BadJ H x) (hp : H a = none) : x ≠ .ref a := by
  rintro rfl
  rcases w with k | ⟨b, zs, e, h2, _⟩
  · cases k with
    | tup h => rw [hp] at h; cases h
    | dic h => rw [hp] at h; cases h
  · cases e
    rw [hp] at h2
    cases h2
theorem BadJ.hj (w : BadJ H x) : HeapJ K H x false := by
  rcases w with k | ⟨a, xs, rfl, h2, h3, h4, h5⟩
  · exact .no k
  · rw [← h5]
    exact .lst (sq_of h2) h3 h4
theorem heap_bad (h : v ∈ xs) (hv : posV v = false) : heapB xs = false := by
  unfold heapB
  have : xs.all posV = false := by
    cases e : xs.all posV
    · rfl
    · rw [List.all_eq_true.mp e v h] at hv
      cases hv
  rw [this]
  rfl
theorem tup_kdn (w : Tup P H v) : KdN H v := by
  obtain ⟨a, xs, rfl, h, _⟩ := w
  exact .tup h
theorem es_badN (h : Ev te σ H v) (k : KdN H v) : EvS te σ H BadJ := es_of h fun H1 e => .inl (k.ex e)
theorem es_badT (h : EvS te σ H (Tup P)) : EvS te σ H BadJ := es_imp h fun _ _ _ w => .inl (tup_kdn w)
theorem es_badD : EvS tDNewK σ H BadJ := es_imp es_dic fun _ _ _ w => .inl w
theorem es_badL (h : EvL te σ H xs) (hx : ∀ v ∈ xs, Kd H v) (hz : xs.length ≤ 30000) (hb : heapB xs = false) : EvS te σ H BadJ := es_imp (es_L (P := fun H1 ys => (∀ v ∈ ys, Kd H1 v) ∧ ys = xs) h fun H1 e => ⟨fun v hv => (hx v hv).ex e, rfl⟩) fun H1 v _ w => by
  obtain ⟨a, ys, rfl, _, h2, h3, rfl⟩ := w
  exact .inr ⟨a, ys, rfl, h2, h3, hz, hb⟩
theorem kds_nil : ∀ v ∈ ([] : List V), Kd H v := fun _ h => by cases h
theorem kds_cons (h : Kd H x) (r : ∀ v ∈ xs, Kd H v) : ∀ v ∈ x :: xs, Kd H v := fun v hv => by
  rcases List.mem_cons.mp hv with rfl | hv
  · exact h
  · exact r v hv
theorem lst_kd (w : Lst N P H v) : Kd H v := by
  obtain ⟨a, xs, rfl, _, h, _⟩ := w
  exact .inr ⟨a, xs, rfl, h⟩
theorem kd_int : Kd H (.int i) := .inl (.int i)
theorem es_int {R : V → Prop} (h : Ev te σ H (.int i)) (hr : R (.int i)) : EvS te σ H (KdR R) := es_of h fun _ _ => ⟨kd_int, hr⟩
theorem es_kdr {R : V → Prop} (h : Ev te σ H v) (k : Kd H v) (hr : R v) : EvS te σ H (KdR R) := es_of h fun _ e => ⟨k.ex e, hr⟩
theorem es_good (h : EvL te σ H (ns.map V.int)) (hh : IsHeap ns) (hz : ns.length ≤ 30000) : EvS te σ H (fun H v => GoodH K H v ns) := fun H1 e Q q => h H1 e Q fun p H2 _ e2 h2 => q _ H2 e2 ⟨p, rfl, sq_map h2, hh, hz⟩
theorem mo_good : Mo fun H v => GoodH K H v ns := fun _ _ _ e g => g.ex e
theorem ask_heap (w : BadJ H y) : Asked (sp5_with_heap K Y) (Y 0) (fun _ x => ∃ i, x = .int i ∧ 0 ≤ i ∧ i < 10) H y := fun H1 e x hx => by
  obtain ⟨i, rfl, hi⟩ := hx
  exact sx_with_heap hi ((w.ex e).hj)
theorem ask_len (w : KdR (fun v => lenB v = false) H y) : Asked (sp5_with_length Y) (Y 1) (fun _ x => ∃ i, x = .int i ∧ 0 ≤ i ∧ i < 7) H y := fun H1 e x hx => by
  obtain ⟨i, rfl, hi⟩ := hx
  exact sx_with_length hi (w.1.ex e) (fun _ => w.2) (few_len w.2)
theorem ask_few (w : KdR (fun v => fewB v = false) H y) : Asked (sp5_with_length Y) (Y 1) (fun _ x => ∃ i, x = .int i ∧ 5 ≤ i ∧ i < 7) H y := fun H1 e x hx => by
  obtain ⟨i, rfl, hi⟩ := hx
  exact sx_with_length ⟨by omega, hi.2⟩ (w.1.ex e) (fun z => by omega) w.2
theorem ask_square (w : Pair (fun r s => placeB ns r s = false) H y) : Asked (sp5_with_square K Y) (Y 2) (fun H v => GoodH K H v ns) H y := fun H1 e x hx => by
  obtain ⟨a, r, s, rfl, h1, h2, h3, h4⟩ := w
  exact sx_with_square hx (st_of (e _ _ h1)) (h2.ex e) (h3.ex e) h4
theorem ask_row (w : Pair (fun l r => ∃ i, l = .int i ∧ 1 ≤ i ∧ NoRim ns i r) H y) : Asked (sp5_with_row K Y) (Y 2) (fun H v => GoodH K H v ns) H y := fun H1 e x hx => by
  obtain ⟨a, r, s, rfl, h1, h2, h3, i, rfl, h4, h5⟩ := w
  exact sx_with_row hx (st_of (e _ _ h1)) h4 (h3.ex e) h5
def GoodS (K : PySem.W.Frag) (R : List Int → Prop) (H : Hp) (v : V) : Prop := ∃ ns, GoodH K H v ns ∧ R ns
theorem mo_goodS {R : List Int → Prop} : Mo (GoodS K R) := fun _ _ _ e g => let ⟨ns, h1, h2⟩ := g; ⟨ns, h1.ex e, h2⟩
theorem es_goodS {R : List Int → Prop} (h : EvL te σ H (ns.map V.int)) (hh : IsHeap ns) (hz : ns.length ≤ 30000) (hr : R ns) : EvS te σ H (GoodS K R) := es_imp (es_good h hh hz) fun _ _ _ g => ⟨ns, g, hr⟩
theorem ask_bad {R : List Int → Prop} (w : PartsBad K H y 2) : Asked (sp5_with_parts K Y) (Y 3) (GoodS K R) H y := fun H1 e x hx => by
  obtain ⟨ns, g, _⟩ := hx
  exact sx_with_parts g (.inl (w.ex e))
theorem ask_ok (w : PartsOk K H y 2) : Asked (sp5_with_parts K Y) (Y 3) (GoodS K fun ns => rimsH ns 2 ≠ []) H y := fun H1 e x hx => by
  obtain ⟨ns, g, hr⟩ := hx
  exact sx_with_parts g (.inr ⟨w.ex e, hr⟩)
theorem ask_many (w : y = .int i) (hi : 1 ≤ i) (hl : i.natAbs.log2 < 9000) : Asked (sp5_too_many K Y) (Y 4) (GoodS K fun ns => 1000 < rimsIn ns i) H y := fun H1 e x hx => by
  obtain ⟨ns, g, hr⟩ := hx
  subst w
  exact sx_too_many g hi hl hr
theorem mo_pb : Mo fun H v => PartsBad K H v 2 := fun _ _ _ e w => w.ex e
theorem mo_ok : Mo fun H v => PartsOk K H v 2 := fun _ _ _ e w => w.ex e
theorem pb_k (h : EvS te σ H KdN) : EvS te σ H fun H v => PartsBad K H v 2 := es_imp h fun _ _ _ w => .inl w
theorem pb_c (h : Ev te σ H v) (k : KdN H v) : EvS te σ H fun H v => PartsBad K H v 2 := es_of h fun H1 e => .inl (k.ex e)
theorem es_tr (h : EvS te σ H G) : EvS te σ H fun _ _ => True := es_imp h fun _ _ _ _ => trivial
theorem pb_len (h : EvS te σ H (Lst N (AllG G n))) (hn : (n : Int) ≠ 2 ∧ n ≤ 30000) : EvS te σ H fun H v => PartsBad K H v 2 := es_imp h fun H1 v _ w => by
  obtain ⟨a, xs, rfl, _, h2, h3, _⟩ := w
  exact .inr ⟨a, xs, rfl, sq_of h2, by omega, .inl (by rw [h3]; exact hn.1)⟩
def HJ (K : PySem.W.Frag) (c : Bool) (H : Hp) (v : V) : Prop := HeapJ K H v c
theorem mo_hj {c : Bool} : Mo (HJ K c) := fun _ _ _ e w => HeapJ.ex e w
theorem hj_L {c : Bool} (h : EvL te σ H xs) (hx : ∀ v ∈ xs, Kd H v) (hz : xs.length ≤ 30000) (hb : heapB xs = c) : EvS te σ H (HJ K c) := fun H1 e Q q => h H1 e Q fun p H2 _ e2 h2 => q _ H2 e2 (by
  rw [← hb]
  exact HeapJ.lst (sq_of h2) (fun v hv => (hx v hv).ex (e.trans e2)) hz)
theorem hj_k (h : EvS te σ H KdN) : EvS te σ H (HJ K false) := es_imp h fun _ _ _ w => .no w
theorem two_bs {c1 c2 : Bool} (w : Lst N (Two (HJ K c1) (HJ K c2)) H v) : ∃ a xs, v = .ref a ∧ SqL K H a xs ∧ xs.length = 2 ∧ HJs K H xs [c1, c2] := by
  obtain ⟨a, xs, rfl, _, h2, x, y, rfl, h3, h4⟩ := w
  exact ⟨a, _, rfl, sq_of h2, rfl, .cons h3 (.cons h4 .nil)⟩
theorem two_len (H : Hp) (vs : List V) (w : Two G1 G2 H vs) : vs.length ≤ 100000 := by
  obtain ⟨x, y, rfl, _⟩ := w
  exact Nat.le_of_ble_eq_true rfl
theorem pb_of {c1 c2 : Bool} (hc : (c1 && c2) = false) (w : Lst N (Two (HJ K c1) (HJ K c2)) H v) : PartsBad K H v 2 := by
  obtain ⟨a, xs, rfl, h1, h2, h3⟩ := two_bs w
  refine .inr ⟨a, xs, rfl, h1, by omega, .inr ⟨_, h3, ?_⟩⟩
  cases c1 <;> cases c2 <;> first | rfl | cases hc
theorem pb_two {c1 c2 : Bool} (h1 : EvS ta σ H (HJ K c1)) (h2 : EvS tb σ H (HJ K c2)) (hc : (c1 && c2) = false) : EvS (tLst (tCons ta (tCons tb tNil))) σ H fun H v => PartsBad K H v 2 :=
  es_imp (es_lst (Two.mo mo_hj mo_hj) (esp_two mo_hj h1 h2) two_len) fun _ _ _ w => pb_of hc w
theorem ok_two (h1 : EvS ta σ H (HJ K true)) (h2 : EvS tb σ H (HJ K true)) : EvS (tLst (tCons ta (tCons tb tNil))) σ H fun H v => PartsOk K H v 2 :=
  es_imp (es_lst (Two.mo mo_hj mo_hj) (esp_two mo_hj h1 h2) two_len) fun _ _ _ w => by
    obtain ⟨a, xs, rfl, h1, h2, h3⟩ := two_bs w
    exact ⟨a, xs, _, rfl, h1, by omega, by rw [h2]; rfl, h3, rfl⟩
/-- a list of two new lists, none of them at l -/
theorem es_two_at {l : Addr} {o : HO} (hl : H l = some o) (h1 : EvL ta σ H xs) (h2 : EvL tb σ H ys) : EvS (tLst (tCons ta (tCons tb tNil))) σ H fun H2 v => ∃ c a b, v = .ref c ∧ c ≠ l ∧ a ≠ l ∧ b ≠ l ∧ H2 c = some (.lst [.ref a, .ref b]) ∧ H2 a = some (.lst xs) ∧ H2 b = some (.lst ys) := fun H1 e Q q =>
  h1 H1 e _ fun a H2 ha e2 q2 => h2 H2 (e.trans e2) _ fun b H3 hb e3 q3 => ⟨Nat.le_of_ble_eq_true rfl, fun c hc => q (.ref c) _ ((e2.trans e3).trans (Ex.new hc))
    ⟨c, a, b, rfl, (ne_of_none (((e.trans e2).trans e3) _ _ hl) hc).symm, (ne_of_none (e _ _ hl) ha).symm, (ne_of_none ((e.trans e2) _ _ hl) hb).symm, upd_same, Ex.new hc _ _ (e3 _ _ q2), Ex.new hc _ _ q3⟩⟩
theorem q_appS {l : Addr} {xs : List V} (hl : H l = some (.lst xs)) (ha : Ev ta σ H (.ref l)) (h : EvS te σ H G) (hz : xs.length < 100000) (k : ∀ v H1, Ex H H1 → G H1 v → tz D σ (upd H1 l (.lst (xs ++ [v])))) :
    tSeq (tDrop (tBM K "list" rAppend ta (tCons te tNil))) tz D σ H := s_appS (D := { D with nx := tz D }) hl ha h hz k
def Mix (G1 G2 : Hp → V → Prop) (k n : Nat) (H : Hp) (xs : List V) : Prop := xs.length = k + n ∧ (∀ x ∈ xs.take k, G1 H x) ∧ ∀ x ∈ xs, G2 H x
theorem mix_nil (h : EvSP tg σ H (AllG G2 n)) : EvSP tg σ H (Mix G1 G2 0 n) := fun H1 e Q q => h H1 e Q fun vs H2 e2 w => q vs H2 e2 ⟨by rw [w.1, Nat.zero_add], (fun x hx => by rw [List.take_zero] at hx; cases hx), w.2⟩
theorem mix_cons {k : Nat} (m1 : Mo G1) (i : ∀ H v, G1 H v → G2 H v) (h : EvS ta σ H G1) (r : EvSP tr σ H (Mix G1 G2 k n)) : EvSP (tCons ta tr) σ H (Mix G1 G2 (k + 1) n) := fun H1 e Q q => h H1 e _ fun v H2 e2 g => r H2 (e.trans e2) _ fun vs H3 e3 w => q (v :: vs) H3 (e2.trans e3) ⟨by rw [List.length_cons, w.1]; omega, fun x hx => by
  rw [List.take_succ_cons] at hx
  rcases List.mem_cons.mp hx with rfl | hx
  · exact m1 _ _ _ e3 g
  · exact w.2.1 x hx, fun x hx => by
  rcases List.mem_cons.mp hx with rfl | hx
  · exact i _ _ (m1 _ _ _ e3 g)
  · exact w.2.2 x hx⟩
theorem mix_len {k : Nat} (hk : k + n ≤ 100000) (H : Hp) (vs : List V) (w : Mix G1 G2 k n H vs) : vs.length ≤ 100000 := by rw [w.1]; exact hk
theorem mo_odd : Mo Odd := fun _ _ _ e h => ⟨h.1.ex e, h.2⟩
theorem odd_kdr (H : Hp) (v : V) (h : Odd H v) : KdR (fun v => lenB v = false) H v := ⟨h.1, len_whole h.2⟩
theorem es_odd (h : Ev te σ H v) (k : Kd H v) (hw : wholeV v = false) : EvS te σ H Odd := es_of h fun _ e => ⟨k.ex e, hw⟩
theorem es_oddT (h : EvS te σ H (Tup P)) : EvS te σ H Odd := es_imp h fun _ v _ w => ⟨.inl (tup_kdn w), by obtain ⟨_, _, rfl, _⟩ := w; rfl⟩
theorem es_oddL (h : EvS te σ H (Lst N P)) : EvS te σ H Odd := es_imp h fun _ v _ w => ⟨lst_kd w, by obtain ⟨_, _, rfl, _⟩ := w; rfl⟩
theorem es_oddD : EvS tDNewK σ H Odd := fun H1 _ Q q => fun p hp => q (.ref p) _ (Ex.new hp) ⟨.inl (.dic upd_same), rfl⟩
/-- the first seven of a list -/
theorem es_seven {R : V → Prop} (h : Ev te σ H (.ref a)) (ha : H a = some (.lst xs)) (hl : xs.length = 10) (ho : ∀ x ∈ xs.take 7, Odd H x) (hR : ∀ v, wholeV v = false → R v) (hk : Ev tb σ H (.int 7)) : EvS (tSl (rSlL K) te tNoPart (tPart tb)) σ H (Lst (new H) (AllG (KdR R) 7)) :=
  es_L (el_as (el_sl h eo_none (eo_some hk) (sq_of ha)) (cut_take xs 7)) fun H1 e => ⟨by rw [List.length_take]; omega, fun x hx => ⟨(ho x hx).1.ex e, hR x (ho x hx).2⟩⟩
theorem go_places {far : Int} (hs : H a = some (.lst xs)) (hl : xs.length = 10) (ho : ∀ x ∈ xs.take 7, Odd H x) (hf : 0 ≤ far ∧ far < 100000000000000000000) (u : Dues H d) : SpV sp5_places [.ref a, .int far, .ref d] H (.bl true) := fun H1 e Q q E =>
  ⟨a, far, d, xs, rfl, e _ _ hs, hl, fun x hx => mo_odd _ _ _ e (ho x hx), hf, u.ex e, q⟩
theorem go_parts_right {far : Int} (hf : 0 ≤ far ∧ far < 100000000000000000000) (u : Dues H d) : SpV sp5_parts_right [.int far, .ref d] H (.bl true) := fun H1 e Q q E => ⟨far, d, rfl, hf, u.ex e, q⟩
theorem ell_parts5 (h : EvL ta σ H (ns.map V.int)) (hb : Ev tb σ H (.int i)) (hp : IsHeap ns ∧ ns.length ≤ 25000 ∧ 1 ≤ i ∧ i ≤ 100) : EvLL (tCall (sp5_parts K Y) [] E (tCons ta (tCons tb tNil))) σ H (partsOf ns i) := fun H1 e Q q => h H1 e _ fun a H2 _ e2 h2 => hb H2 (e.trans e2) _ fun H3 e3 =>
  ⟨.ref a, .int i, rfl, .inr (.inr ⟨a, ns, i, rfl, e3 _ _ h2, hp, rfl, fun p bs H4 n => q p bs H4 (n.back (e2.trans e3))⟩)⟩
/-- a list of one list, again and again -/
theorem rep_rs (n : Nat) (b : Addr) : (List.replicate n [V.ref b]).flatten = rs (List.replicate n b) := by
  induction n with
  | zero => rfl
  | succ n ih =>
    rw [List.replicate_succ, List.replicate_succ, List.flatten_cons, ih]
    rfl
theorem ll_rep {b : Addr} (n : Nat) (h : H b = some (.lst (([] : List Int).map V.int))) : LL H (List.replicate n b) (List.replicate n []) := by
  induction n with
  | zero => exact .nil
  | succ n ih =>
    rw [List.replicate_succ, List.replicate_succ]
    exact .cons h ih
theorem ev_eqRep {ps : List (List Int)} (h1 : EvLL ta σ H ps) (h2 : EvL tb σ H (([] : List Int).map V.int)) (h3 : Ev tc σ H (.int i)) (hi : 0 ≤ i ∧ i ≤ 100000) : Ev (tOp (rEqD K) ta (tOp rRep (tLst (tCons tb tNil)) tc)) σ H (.bl (decide (ps = List.replicate i.toNat []))) := fun H1 e Q q => h1 H1 e _ fun p bs H2 n => by
  have e2 := n.2.2.2.2.1
  refine h2 H2 (e.trans e2) _ fun b H3 _ e3 q3 => ⟨Nat.le_of_ble_eq_true rfl, fun c hc => ?_⟩
  have e4 : Ex H3 (upd H3 c (.lst [.ref b])) := Ex.new hc
  refine h3 _ (((e.trans e2).trans e3).trans e4) _ fun H5 e5 => ⟨c, i, [.ref b], rfl, rfl, e5 _ _ upd_same, by omega, by omega, sz_of (by show 1 * _ ≤ _; omega), fun g hg => ?_⟩
  rw [rep_rs]
  have e6 : Ex H5 (upd H5 g (.lst (rs (List.replicate i.toNat b)))) := Ex.new hg
  have e26 := ((e3.trans e4).trans e5).trans e6
  exact rv_eqLL (n.sl.ex e26) (sl_of upd_same (ll_rep i.toNat ((((e4.trans e5).trans e6)) _ _ q3))) _ (Ex.refl _) Q fun H7 e7 => q H7 ((e2.trans e26).trans e7)
/-- len of the rows that are gone -/
theorem ev_goneRows (T : GoneT K mg C CA) (h : EvL ta σ H (ns.map V.int)) (hb : Ev tb σ H (.int i)) (hp : (IsHeap ns ∧ Len ns) ∧ 1 ≤ i ∧ i.natAbs.log2 < 9000 ∧ rimsIn ns i ≤ 1000) :
    Ev (tCB (rLenS K) (tCons (tFld K (tCall (sp5_gone K Y C) [] E (tCons ta (tCons tb tNil))) "rows") tNil)) σ H (.int (rimsIn ns i)) := fun H1 e Q q => h H1 e _ fun a H2 _ e2 h2 => hb H2 (e.trans e2) _ fun H3 e3 =>
  ⟨.ref a, .int i, rfl, .inr (.inr (.inr ⟨a, ns, i, rfl, sq_map (e3 _ _ h2), hp, fun x pr pl R H4 _ _ _ _ e4 hg hr _ _ hlen => by
    obtain ⟨dx, hx⟩ := hg
    exact ⟨x, C, dx, _, _, rfl, hx, T.cl, T.nR, gf_rows _ _, pr, R.map V.int, rfl, .inl (sq_of hr), by
      rw [List.length_map, hlen]
      exact q H4 ((e2.trans e3).trans e4)⟩⟩))⟩
end
section
variable {K : PySem.W.Frag} {Y : Nat → Addr} {σ : L2.St} {H H' : Hp} {ta tb tc te tl t0 t1 t2 t3 : TE} {x y z v : V} {i j : Int} {a b d : Addr} {ns ms : List Int} {xs ys : List V} {E : XK} {S : Addr → Sp → Prop} {sp : Sp} {G G1 G2 : Hp → V → Prop} {P P1 P2 : Hp → List V → Prop} {N N1 N2 N3 : Addr → Prop} {n m : Nat}
def BadP (H : Hp) (xs : List V) : Prop := (∀ v ∈ xs, Kd H v) ∧ xs.length ≤ 200 ∧ ∃ v ∈ xs, posV v = false
theorem mo_badP : MoP BadP := fun _ _ _ e h => ⟨fun v hv => (h.1 v hv).ex e, h.2⟩
theorem es_cat3 (h1 : EvS ta σ H (Lst N1 (AllG Kd n))) (h2 : EvS tb σ H (Lst N2 (AllG (KdR fun v => posV v = false) 1))) (h3 : EvS tc σ H (Lst N3 (AllG Kd m))) (hz : n + m ≤ 190) : EvS (tOp rCat (tOp rCat ta tb) tc) σ H (fun H1 v => ∃ c, v = .ref c ∧ H c = none ∧ BadJ H1 v) := by
  have s1 : EvS (tOp rCat ta tb) σ H (Lst (new H) fun H xs => BadP H xs ∧ xs.length = n + 1) := es_imp (es_catP (AllG.mo mo_kd) (AllG.mo mo_kdr) h1 h2 (fun _ vs w => by rw [w.1]; omega) (fun _ vs w => by rw [w.1]; decide)) fun H1 v _ w => by
    obtain ⟨c, zs, rfl, hc, h3, xs, ys, rfl, w1, w2⟩ := w
    obtain ⟨w3, w4⟩ := w2
    refine ⟨c, _, rfl, hc, h3, ⟨fun v hv => ?_, by rw [List.length_append, w1.1, w3]; omega, ?_⟩, by rw [List.length_append, w1.1, w3]⟩
    · rcases List.mem_append.mp hv with hv | hv
      · exact w1.2 v hv
      · exact (w4 v hv).1
    · cases ys with
      | nil => cases w3
      | cons y ys => exact ⟨y, List.mem_append_right _ List.mem_cons_self, (w4 y List.mem_cons_self).2⟩
  exact es_imp (es_catP (fun _ _ _ e h => ⟨mo_badP _ _ _ e h.1, h.2⟩) (AllG.mo mo_kd) s1 h3 (fun _ vs w => by rw [w.2]; omega) (fun _ vs w => by rw [w.1]; omega)) fun H1 v _ w => by
    obtain ⟨c, zs, rfl, hc, h3, xs, ys, rfl, w1, w2⟩ := w
    obtain ⟨⟨w3, w4, u, hu, hp⟩, w5⟩ := w1
    refine ⟨c, rfl, hc, .inr ⟨c, _, rfl, h3, fun v hv => ?_, by rw [List.length_append, w5, w2.1]; omega, heap_bad (List.mem_append_left _ hu) hp⟩⟩
    rcases List.mem_append.mp hv with hv | hv
    · exact w3 v hv
    · exact w2.2 v hv
theorem es_kdTake {k : Nat} (h : Ev te σ H (.ref a)) (hs : SqL K H a (ns.map V.int)) (hk : Ev tb σ H (.int (k : Int))) (hl : k ≤ ns.length) : EvS (tSl (rSlL K) te tNoPart (tPart tb)) σ H (Lst (new H) (AllG Kd k)) := es_L (el_takeI h hs hk) fun H1 _ => ⟨by rw [List.length_map, List.length_take]; omega, kd_ints _⟩
theorem es_kdDrop {k : Nat} (h : Ev te σ H (.ref a)) (hs : SqL K H a (ns.map V.int)) (hk : Ev tb σ H (.int (k : Int))) : EvS (tSl (rSlL K) te (tPart tb) tNoPart) σ H (Lst (new H) (AllG Kd (ns.length - k))) := es_L (el_dropI h hs hk) fun H1 _ => ⟨by rw [List.length_map, List.length_drop], kd_ints _⟩
/-- all is told, against what is due at a place -/
theorem ev_allD {f : Addr} {j n e : Nat} {c : Int} {X : Hp → V → Prop} (mX : Mo X) (mG : Mo G) (hS : S f sp) (hj : j < 5) (hn : n ≤ 30000) (h0 : Ev t0 σ H (.ref f)) (h1 : EvS t1 σ H X) (h2 : EvS t2 σ H (Lst N (AllG G n))) (hG : ∀ H y, G H y → Asked sp (Y j) X H y) (u : Dues H d) (hσ : σ[e]? = some (some (.ref d))) (hc : c = (j : Int)) :
    Ev (tCall (sp5_all K Y S) [] E (tCons t0 (tCons t1 (tCons t2 (tCons (tOp (rIxL K) (tVar e) (tC (.int c))) tNil))))) σ H (.bl true) := by
  subst hc
  obtain ⟨b, hb, hv⟩ := ev_due (K := K) u hj (ev_var (σ := σ) hσ) (ev_c (v := .int (j : Int)))
  exact ev_all mX mG hS hj hn h0 h1 h2 hG hv hb
end
end Rh

namespace Rh
open PySem PySem.Spec PyProof.Rows L2 Evl
structure ExcF (K : PySem.W.Frag) (x : Str) (C : Addr) : Prop where
  a : PySem.W.nsIn K mainGlobals x = some (some (.ref C))
  xF : PySem.W.excIn K C [.type "ValueError", .type "Exception", .type "BaseException", .type "object"] "ValueError.__new__" = true
  kF : PySem.W.keepIn K (.ref C) = true
  ic : ExcC K C
  tF : PySem.W.typeIn K (.ref C) = some (.type "type")
  ve : PySem.W.kitOne K (.ref C) (.type "ValueError") = some true
theorem excF_mk {K : PySem.W.Frag} {x : Str} {C : Addr} (a : PySem.W.nsIn K mainGlobals x = some (some (.ref C))) (xF : PySem.W.excIn K C [.type "ValueError", .type "Exception", .type "BaseException", .type "object"] "ValueError.__new__" = true) (kF : PySem.W.keepIn K (.ref C) = true)
    (hg : PySem.W.findIn K (.ref C) "__getattribute__" = some (some (.builtin "BaseException.__getattribute__"))) (hk : PySem.W.findIn K (.ref C) "__getattr__" = some none) (hs : PySem.W.subIn K (.ref C) (.type "BaseException") = some true) (hd : PySem.W.hasDictIn K C = true)
    (ha : PySem.W.findIn K (.ref C) "__class__" = some (some (.builtin "object.__class__"))) (hn : PySem.W.specialIn K (.builtin "object.__class__") "__get__" = some (some (.builtin "getset_descriptor.__get__"))) (ht : PySem.W.takesIn K (.builtin "object.__class__") = some true) (hm : PySem.W.mroIn K C (.type "object") = some true)
    (tF : PySem.W.typeIn K (.ref C) = some (.type "type")) (ve : PySem.W.kitOne K (.ref C) (.type "ValueError") = some true) : ExcF K x C := ⟨a, xF, kF, ⟨hg, hk, hs, hd, ha, hn, ht, hm⟩, tF, ve⟩
def ErrsF (K : PySem.W.Frag) : Prop := ∃ a0 a1 a2 a3 a4 aH : Addr, ExcF K "BadHeap" a0 ∧ ExcF K "BadLength" a1 ∧ ExcF K "BadPlace" a2 ∧ ExcF K "BadParts" a3 ∧ ExcF K "TooMany" a4 ∧ PySem.W.nsIn K mainGlobals "HeapError" = some (some (.ref aH)) ∧ PySem.W.nsIn K mainGlobals "ValueError" = some none ∧ PySem.W.kitOne K (.ref a0) (.ref a1) = some false ∧ PySem.W.kitOne K (.ref a0) (.ref a2) = some false ∧ PySem.W.kitOne K (.ref a0) (.ref a3) = some false ∧ PySem.W.kitOne K (.ref a0) (.ref a4) = some false ∧ PySem.W.kitOne K (.ref a1) (.ref a0) = some false ∧ PySem.W.kitOne K (.ref a1) (.ref a2) = some false ∧ PySem.W.kitOne K (.ref a1) (.ref a3) = some false ∧ PySem.W.kitOne K (.ref a1) (.ref a4) = some false ∧ PySem.W.kitOne K (.ref a2) (.ref a0) = some false ∧ PySem.W.kitOne K (.ref a2) (.ref a1) = some false ∧ PySem.W.kitOne K (.ref a2) (.ref a3) = some false ∧ PySem.W.kitOne K (.ref a2) (.ref a4) = some false ∧ PySem.W.kitOne K (.ref a3) (.ref a0) = some false ∧ PySem.W.kitOne K (.ref a3) (.ref a1) = some false ∧ PySem.W.kitOne K (.ref a3) (.ref a2) = some false ∧ PySem.W.kitOne K (.ref a3) (.ref a4) = some false ∧ PySem.W.kitOne K (.ref a4) (.ref a0) = some false ∧ PySem.W.kitOne K (.ref a4) (.ref a1) = some false ∧ PySem.W.kitOne K (.ref a4) (.ref a2) = some false ∧ PySem.W.kitOne K (.ref a4) (.ref a3) = some false ∧ PySem.W.exmOne K (.ref a0) (.ref aH) = some true ∧ PySem.W.exmOne K (.ref a1) (.ref aH) = some true ∧ PySem.W.exmOne K (.ref a2) (.ref aH) = some true ∧ PySem.W.exmOne K (.ref a3) (.ref aH) = some true ∧ PySem.W.exmOne K (.ref a4) (.ref aH) = some true
theorem errsF_mk {K : PySem.W.Frag} {a0 a1 a2 a3 a4 aH : Addr} (x0 : ExcF K "BadHeap" a0) (x1 : ExcF K "BadLength" a1) (x2 : ExcF K "BadPlace" a2) (x3 : ExcF K "BadParts" a3) (x4 : ExcF K "TooMany" a4) (h : PySem.W.nsIn K mainGlobals "HeapError" = some (some (.ref aH))) (v : PySem.W.nsIn K mainGlobals "ValueError" = some none)
    (k01 : PySem.W.kitOne K (.ref a0) (.ref a1) = some false) (k02 : PySem.W.kitOne K (.ref a0) (.ref a2) = some false) (k03 : PySem.W.kitOne K (.ref a0) (.ref a3) = some false) (k04 : PySem.W.kitOne K (.ref a0) (.ref a4) = some false) (k10 : PySem.W.kitOne K (.ref a1) (.ref a0) = some false) (k12 : PySem.W.kitOne K (.ref a1) (.ref a2) = some false) (k13 : PySem.W.kitOne K (.ref a1) (.ref a3) = some false) (k14 : PySem.W.kitOne K (.ref a1) (.ref a4) = some false) (k20 : PySem.W.kitOne K (.ref a2) (.ref a0) = some false) (k21 : PySem.W.kitOne K (.ref a2) (.ref a1) = some false) (k23 : PySem.W.kitOne K (.ref a2) (.ref a3) = some false) (k24 : PySem.W.kitOne K (.ref a2) (.ref a4) = some false) (k30 : PySem.W.kitOne K (.ref a3) (.ref a0) = some false) (k31 : PySem.W.kitOne K (.ref a3) (.ref a1) = some false) (k32 : PySem.W.kitOne K (.ref a3) (.ref a2) = some false) (k34 : PySem.W.kitOne K (.ref a3) (.ref a4) = some false) (k40 : PySem.W.kitOne K (.ref a4) (.ref a0) = some false) (k41 : PySem.W.kitOne K (.ref a4) (.ref a1) = some false) (k42 : PySem.W.kitOne K (.ref a4) (.ref a2) = some false) (k43 : PySem.W.kitOne K (.ref a4) (.ref a3) = some false)
    (hs : PySem.W.subIn K (.ref aH) (.type "BaseException") = some true) (hd : PySem.W.hasDictIn K aH = true) (ht : PySem.W.typeIn K (.ref aH) = some (.type "type")) (s0 : PySem.W.subIn K (.ref a0) (.ref aH) = some true) (s1 : PySem.W.subIn K (.ref a1) (.ref aH) = some true) (s2 : PySem.W.subIn K (.ref a2) (.ref aH) = some true) (s3 : PySem.W.subIn K (.ref a3) (.ref aH) = some true) (s4 : PySem.W.subIn K (.ref a4) (.ref aH) = some true) : ErrsF K :=
  ⟨a0, a1, a2, a3, a4, aH, x0, x1, x2, x3, x4, h, v, k01, k02, k03, k04, k10, k12, k13, k14, k20, k21, k23, k24, k30, k31, k32, k34, k40, k41, k42, k43, PySem.W.exm_ref hs hd ht s0, PySem.W.exm_ref hs hd ht s1, PySem.W.exm_ref hs hd ht s2, PySem.W.exm_ref hs hd ht s3, PySem.W.exm_ref hs hd ht s4⟩
def Y5 (a0 a1 a2 a3 a4 : Addr) (j : Nat) : Addr := match j with
  | 0 => a0
  | 1 => a1
  | 2 => a2
  | 3 => a3
  | _ => a4
theorem kit_self {K : PySem.W.Frag} {v : Value} : PySem.W.kitOne K v v = some true := by
  unfold PySem.W.kitOne
  rw [if_pos (beq_self_eq_true _)]
theorem ErrsF.ok {K : PySem.W.Frag} {h : Heap} {mg : Str → Option Value} (E : ErrsF K) (X : K.In h) (G : h.Ns mainGlobals mg) : ∃ Y YH, Errs K mg Y YH := by
  obtain ⟨a0, a1, a2, a3, a4, aH, x0, x1, x2, x3, x4, h, v, k01, k02, k03, k04, k10, k12, k13, k14, k20, k21, k23, k24, k30, k31, k32, k34, k40, k41, k42, k43, m0, m1, m2, m3, m4⟩ := E
  refine ⟨Y5 a0 a1 a2 a3 a4, aH, ?_⟩
  refine ⟨⟨PySem.W.mg_of X G x0.a, x0.xF, x0.kF, x0.ic, x0.tF, x0.ve⟩, ⟨PySem.W.mg_of X G x1.a, x1.xF, x1.kF, x1.ic, x1.tF, x1.ve⟩, ⟨PySem.W.mg_of X G x2.a, x2.xF, x2.kF, x2.ic, x2.tF, x2.ve⟩, ⟨PySem.W.mg_of X G x3.a, x3.xF, x3.kF, x3.ic, x3.tF, x3.ve⟩, ⟨PySem.W.mg_of X G x4.a, x4.xF, x4.kF, x4.ic, x4.tF, x4.ve⟩, PySem.W.mg_of X G h, PySem.W.mg_none_of X G v, fun i j hi hj => ?_, fun j hj => ?_⟩
  · rcases (show i = 0 ∨ i = 1 ∨ i = 2 ∨ i = 3 ∨ i = 4 by omega) with rfl | rfl | rfl | rfl | rfl <;> rcases (show j = 0 ∨ j = 1 ∨ j = 2 ∨ j = 3 ∨ j = 4 by omega) with rfl | rfl | rfl | rfl | rfl <;> first | exact kit_self | assumption
  · rcases (show j = 0 ∨ j = 1 ∨ j = 2 ∨ j = 3 ∨ j = 4 by omega) with rfl | rfl | rfl | rfl | rfl <;> assumption
def GoneF5 (K : PySem.W.Frag) (s1 : Stmt) : Prop := ∃ (C CA f1 : Addr) (oc1 : Value) (od1 : Option Addr) (kV1 doc1 pm1 : Value) (an1 : Option Addr) (cd1 ct1 : Value) (sl1 : Array (Option Value)),
  PySem.W.nsIn K mainGlobals "Gone" = some (some (.ref C)) ∧ PySem.W.nsIn K mainGlobals "Answer" = some (some (.ref CA)) ∧ Mk K C f1 ∧ Cls K C ∧ NoAttr K C "rows" ∧ NoAttr K C "left" ∧
  K.lookup f1 = some ⟨oc1, od1, .func (PySem.W.fnOf "__init__" "Gone.__init__" (defArgs s1) (defBody s1) (defScope s1) .none kV1 doc1 pm1 an1 cd1 ct1), sl1⟩ ∧ PySem.W.codeIn K cd1 "Gone.__init__" = true ∧ PySem.W.keepIn K (.ref f1) = true ∧
  PySem.W.findIn K (.ref C) "__class__" = some (some (.builtin "object.__class__")) ∧ PySem.W.specialIn K (.builtin "object.__class__") "__get__" = some (some (.builtin "getset_descriptor.__get__")) ∧ PySem.W.takesIn K (.builtin "object.__class__") = some true ∧
  PySem.W.mroIn K C (.type "object") = some true ∧ PySem.W.kitOne K (.ref C) (.ref CA) = some true
theorem goneF5_mk {K : PySem.W.Frag} {s1 : Stmt} {C CA f1 : Addr} {oc1 : Value} {od1 : Option Addr} {kV1 doc1 pm1 : Value} {an1 : Option Addr} {cd1 ct1 : Value} {sl1 : Array (Option Value)}
    (aC : PySem.W.nsIn K mainGlobals "Gone" = some (some (.ref C))) (aA : PySem.W.nsIn K mainGlobals "Answer" = some (some (.ref CA)))
    (a1 : PySem.W.findIn K (.ref C) "__init__" = some (some (.ref f1))) (i1 : PySem.W.isFn K (.ref f1) = true) (l1 : K.lookup f1 = some ⟨oc1, od1, .func (PySem.W.fnOf "__init__" "Gone.__init__" (defArgs s1) (defBody s1) (defScope s1) .none kV1 doc1 pm1 an1 cd1 ct1), sl1⟩) (c1 : PySem.W.codeIn K cd1 "Gone.__init__" = true) (k1 : PySem.W.keepIn K (.ref f1) = true)
    (pg : PySem.W.plainGet K C Str.empty = true) (hd : PySem.W.hasDictIn K C = true) (po : PySem.W.plainOver K C = true) (sa : PySem.W.findIn K (.ref C) "__setattr__" = some (some (.builtin "object.__setattr__"))) (mk : PySem.W.makesIn K C = true) (kc : PySem.W.keepIn K (.ref C) = true)
    (nR : PySem.W.findIn K (.ref C) "rows" = some none) (nL : PySem.W.findIn K (.ref C) "left" = some none)
    (hc : PySem.W.findIn K (.ref C) "__class__" = some (some (.builtin "object.__class__"))) (hg : PySem.W.specialIn K (.builtin "object.__class__") "__get__" = some (some (.builtin "getset_descriptor.__get__"))) (ht : PySem.W.takesIn K (.builtin "object.__class__") = some true)
    (hm : PySem.W.mroIn K C (.type "object") = some true) (iA : PySem.W.kitOne K (.ref C) (.ref CA) = some true) : GoneF5 K s1 :=
  ⟨C, CA, f1, oc1, od1, kV1, doc1, pm1, an1, cd1, ct1, sl1, aC, aA, ⟨mk, a1, i1, kc⟩, ⟨pg, hd, po, sa⟩, nR, nL, l1, c1, k1, hc, hg, ht, hm, iA⟩
end Rh

namespace Rh
open PySem PySem.Spec PyProof.Rows L2 Evl
def topS (i : Nat) : Stmt := PySem.Challenge.pw_rimhooks_k05_refused.main.body.getD i (.Pass ⟨0, 0, 0, 0⟩)
abbrev s_is_whole : Stmt := topS 9
theorem sc_is_whole : FnScope ["thing"] ["thing"] (defScope s_is_whole) := ⟨rfl, rfl, rfl, by decide +kernel, rfl, by decide +kernel, by decide +kernel⟩
abbrev s_is_heap : Stmt := topS 10
theorem sc_is_heap : FnScope ["thing", "at", "number"] ["thing"] (defScope s_is_heap) := ⟨rfl, rfl, rfl, by decide +kernel, rfl, by decide +kernel, by decide +kernel⟩
abbrev s_check_heap : Stmt := topS 11
theorem sc_check_heap : FnScope ["heap"] ["heap"] (defScope s_check_heap) := ⟨rfl, rfl, rfl, by decide +kernel, rfl, by decide +kernel, by decide +kernel⟩
abbrev s_check_length : Stmt := topS 12
theorem sc_check_length : FnScope ["length"] ["length"] (defScope s_check_length) := ⟨rfl, rfl, rfl, by decide +kernel, rfl, by decide +kernel, by decide +kernel⟩
abbrev s_marks_of : Stmt := topS 13
theorem sc_marks_of : FnScope ["heap", "at", "number"] ["heap"] (defScope s_marks_of) := ⟨rfl, rfl, rfl, by decide +kernel, rfl, by decide +kernel, by decide +kernel⟩
abbrev s_heap_of : Stmt := topS 14
theorem sc_heap_of : FnScope ["marks", "falling", "rows", "at", "mark", "number"] ["marks"] (defScope s_heap_of) := ⟨rfl, rfl, rfl, by decide +kernel, rfl, by decide +kernel, by decide +kernel⟩
abbrev s_marks_by : Stmt := topS 15
theorem sc_marks_by : FnScope ["heap"] ["heap"] (defScope s_marks_by) := ⟨rfl, rfl, rfl, by decide +kernel, rfl, by decide +kernel, by decide +kernel⟩
abbrev s_squares : Stmt := topS 16
theorem sc_squares : FnScope ["heap"] ["heap"] (defScope s_squares) := ⟨rfl, rfl, rfl, by decide +kernel, rfl, by decide +kernel, by decide +kernel⟩
abbrev s_hook : Stmt := topS 17
theorem sc_hook : FnScope ["heap", "row", "square", "beneath", "number"] ["heap", "row", "square"] (defScope s_hook) := ⟨rfl, rfl, rfl, by decide +kernel, rfl, by decide +kernel, by decide +kernel⟩
abbrev s_rims_of : Stmt := topS 19
theorem sc_rims_of : FnScope ["heap", "length", "told", "known", "mark", "row"] ["heap", "length"] (defScope s_rims_of) := ⟨rfl, rfl, rfl, by decide +kernel, rfl, by decide +kernel, by decide +kernel⟩
abbrev s_rims : Stmt := topS 20
theorem sc_rims : FnScope ["heap", "length"] ["heap", "length"] (defScope s_rims) := ⟨rfl, rfl, rfl, by decide +kernel, rfl, by decide +kernel, by decide +kernel⟩
abbrev s_behind : Stmt := topS 21
theorem sc_behind : FnScope ["heap", "length", "row", "told"] ["heap", "length", "row"] (defScope s_behind) := ⟨rfl, rfl, rfl, by decide +kernel, rfl, by decide +kernel, by decide +kernel⟩
abbrev s_taken : Stmt := topS 22
theorem sc_taken : FnScope ["heap", "length", "row"] ["heap", "length", "row"] (defScope s_taken) := ⟨rfl, rfl, rfl, by decide +kernel, rfl, by decide +kernel, by decide +kernel⟩
abbrev s_counts_of : Stmt := topS 25
theorem sc_counts_of : FnScope ["told", "length", "found", "mark"] ["told", "length"] (defScope s_counts_of) := ⟨rfl, rfl, rfl, by decide +kernel, rfl, by decide +kernel, by decide +kernel⟩
abbrev s_core : Stmt := topS 26
theorem sc_core : FnScope ["heap", "length", "found", "rest", "count", "k"] ["heap", "length"] (defScope s_core) := ⟨rfl, rfl, rfl, by decide +kernel, rfl, by decide +kernel, by decide +kernel⟩
abbrev s_rims_in : Stmt := topS 27
theorem sc_rims_in : FnScope ["heap", "length", "told", "lows", "count", "mark"] ["heap", "length"] (defScope s_rims_in) := ⟨rfl, rfl, rfl, by decide +kernel, rfl, by decide +kernel, by decide +kernel⟩
abbrev s_check_few : Stmt := topS 28
theorem sc_check_few : FnScope ["length"] ["length"] (defScope s_check_few) := ⟨rfl, rfl, rfl, by decide +kernel, rfl, by decide +kernel, by decide +kernel⟩
abbrev s_parts : Stmt := topS 29
theorem sc_parts : FnScope ["heap", "length", "told", "found", "mark", "rest", "some"] ["heap", "length"] (defScope s_parts) := ⟨rfl, rfl, rfl, by decide +kernel, rfl, by decide +kernel, by decide +kernel⟩
abbrev s_joined : Stmt := topS 30
theorem sc_joined : FnScope ["core", "parts", "length", "part", "deep", "told", "counts", "found", "rest", "rows", "mark"] ["core", "parts", "length"] (defScope s_joined) := ⟨rfl, rfl, rfl, by decide +kernel, rfl, by decide +kernel, by decide +kernel⟩
abbrev s_Gone_init : Stmt := inClass (topS 33) 0
theorem sc_Gone_init : FnScope ["self", "rows", "left"] ["self", "rows", "left"] (defScope s_Gone_init) := ⟨rfl, rfl, rfl, by decide +kernel, rfl, by decide +kernel, by decide +kernel⟩
abbrev s_gone : Stmt := topS 36
theorem sc_gone : FnScope ["heap", "length", "now", "rows", "told"] ["heap", "length"] (defScope s_gone) := ⟨rfl, rfl, rfl, by decide +kernel, rfl, by decide +kernel, by decide +kernel⟩
abbrev s__law_cell_at : Stmt := topS 38
theorem sc__law_cell_at : FnScope ["_law_script", "_law_k"] ["_law_script", "_law_k"] (defScope s__law_cell_at) := ⟨rfl, rfl, rfl, by decide +kernel, rfl, by decide +kernel, by decide +kernel⟩
abbrev s__law_draw : Stmt := topS 39
theorem sc__law_draw : FnScope ["_law_cell", "_law_k", "_law_many", "_law_primes"] ["_law_cell", "_law_k", "_law_many"] (defScope s__law_draw) := ⟨rfl, rfl, rfl, by decide +kernel, rfl, by decide +kernel, by decide +kernel⟩
abbrev s__law_value : Stmt := topS 40
theorem sc__law_value : FnScope ["_law_cell", "_law_k", "_law_most"] ["_law_cell", "_law_k", "_law_most"] (defScope s__law_value) := ⟨rfl, rfl, rfl, by decide +kernel, rfl, by decide +kernel, by decide +kernel⟩
abbrev s__law_heap : Stmt := topS 41
theorem sc__law_heap : FnScope ["_law_script", "_law_by", "_law_kind", "_law_most", "_law_k", "_law_cell", "_law_rows", "_law_total"] ["_law_script", "_law_by"] (defScope s__law_heap) := ⟨rfl, rfl, rfl, by decide +kernel, rfl, by decide +kernel, by decide +kernel⟩
abbrev s__law_kinds : Stmt := topS 42
theorem sc__law_kinds : FnScope ["_law_error", "_law_found"] ["_law_error"] (defScope s__law_kinds) := ⟨rfl, rfl, rfl, by decide +kernel, rfl, by decide +kernel, by decide +kernel⟩
abbrev s__law_with_heap : Stmt := topS 43
theorem sc__law_with_heap : FnScope ["_law_door", "_law_heap_here"] ["_law_door", "_law_heap_here"] (defScope s__law_with_heap) := ⟨rfl, rfl, rfl, by decide +kernel, rfl, by decide +kernel, by decide +kernel⟩
abbrev s__law_with_length : Stmt := topS 44
theorem sc__law_with_length : FnScope ["_law_door", "_law_length", "_law_heap_here"] ["_law_door", "_law_length"] (defScope s__law_with_length) := ⟨rfl, rfl, rfl, by decide +kernel, rfl, by decide +kernel, by decide +kernel⟩
abbrev s__law_with_square : Stmt := topS 45
theorem sc__law_with_square : FnScope ["_law_heap_here", "_law_pair"] ["_law_heap_here", "_law_pair"] (defScope s__law_with_square) := ⟨rfl, rfl, rfl, by decide +kernel, rfl, by decide +kernel, by decide +kernel⟩
abbrev s__law_with_row : Stmt := topS 46
theorem sc__law_with_row : FnScope ["_law_heap_here", "_law_pair"] ["_law_heap_here", "_law_pair"] (defScope s__law_with_row) := ⟨rfl, rfl, rfl, by decide +kernel, rfl, by decide +kernel, by decide +kernel⟩
abbrev s__law_with_parts : Stmt := topS 47
theorem sc__law_with_parts : FnScope ["_law_left", "_law_some"] ["_law_left", "_law_some"] (defScope s__law_with_parts) := ⟨rfl, rfl, rfl, by decide +kernel, rfl, by decide +kernel, by decide +kernel⟩
abbrev s__law_too_many : Stmt := topS 48
theorem sc__law_too_many : FnScope ["_law_heap_here", "_law_length"] ["_law_heap_here", "_law_length"] (defScope s__law_too_many) := ⟨rfl, rfl, rfl, by decide +kernel, rfl, by decide +kernel, by decide +kernel⟩
abbrev s__law_told : Stmt := topS 49
theorem sc__law_told : FnScope ["_law_ask", "_law_one", "_law_other", "_law_error"] ["_law_ask", "_law_one", "_law_other"] (defScope s__law_told) := ⟨rfl, rfl, rfl, by decide +kernel, rfl, by decide +kernel, by decide +kernel⟩
abbrev s__law_all : Stmt := topS 50
theorem sc__law_all : FnScope ["_law_ask", "_law_one", "_law_things", "_law_due", "_law_thing"] ["_law_ask", "_law_one", "_law_things", "_law_due"] (defScope s__law_all) := ⟨rfl, rfl, rfl, by decide +kernel, rfl, by decide +kernel, by decide +kernel⟩
abbrev s__law_places_right : Stmt := topS 51
theorem sc__law_places_right : FnScope ["_law_strange", "_law_far", "_law_due", "_law_small", "_law_places", "_law_rows", "_law_thing"] ["_law_strange", "_law_far", "_law_due"] (defScope s__law_places_right) := ⟨rfl, rfl, rfl, by decide +kernel, rfl, by decide +kernel, by decide +kernel⟩
abbrev s__law_parts_right : Stmt := topS 52
theorem sc__law_parts_right : FnScope ["_law_far", "_law_due", "_law_some", "_law_left"] ["_law_far", "_law_due"] (defScope s__law_parts_right) := ⟨rfl, rfl, rfl, by decide +kernel, rfl, by decide +kernel, by decide +kernel⟩
abbrev s_law : Stmt := topS 53
theorem sc_law : FnScope ["_law_script", "_law_far", "_law_due", "_law_k", "_law_heap_here", "_law_kept", "_law_bad", "_law_at", "_law_door", "_law_strange", "_law_length"] ["_law_script"] (defScope s_law) := ⟨rfl, rfl, rfl, by decide +kernel, rfl, by decide +kernel, by decide +kernel⟩
end Rh

local macro_rules | `(tactic| walk_at "ev") => `(tactic| first
  | exact Evl.ev_c
  | exact Evl.ev_var rfl
  | (refine Rh.ev_add ?_ ?_ <;> walk_at "ev")
  | (refine Rh.ev_sub ?_ ?_ <;> walk_at "ev")
  | (refine Rh.ev_neg ?_ <;> walk_at "ev")
  | (refine Rh.ev_lt ?_ ?_ <;> walk_at "ev")
  | (refine Rh.ev_le ?_ ?_ <;> walk_at "ev")
  | (refine Rh.ev_gt ?_ ?_ <;> walk_at "ev")
  | (refine Rh.ev_ge ?_ ?_ <;> walk_at "ev")
  | (refine Rh.ev_eqI ?_ ?_ <;> walk_at "ev")
  | (refine Rh.ev_neI ?_ ?_ <;> walk_at "ev")
  | (refine Rh.ev_lenL ?_ (by assumption) <;> walk_at "ev"))

namespace Rh
open PySem PySem.Spec PyProof.Rows L2 Evl
section
variable {P : Program} {w : World} {K : PySem.W.Frag} {mg : Str → Option Value} {base : Heap}
theorem ok__law_cell_at {f : Addr} {fd : FuncData} (F : Fun K "_law_cell_at" "_law_cell_at" s__law_cell_at f fd) (g : mg "_law_cell_at" = some (.ref f)) (B : Bl mg)
    {Y : Nat → Addr} {YH : Addr} (Z : Errs K mg Y YH) :
    Dfn P w K mg base CX0 1 "_law_cell_at" f fd ["_law_script", "_law_k"] (sp_l_cell_at K) := by
  refine ⟨F.ok sc__law_cell_at (fun vs H Q E h => ?_) (fun cdv A outer s H vs Q E hr h => ?_), F.kp, F.binds (ps := ["_law_script", "_law_k"]) fun _ _ _ _ _ _ us hl => match us, hl with | [_, _], _ => rfl, g⟩
  · obtain ⟨a, ns, i, rfl, hS, hp, q⟩ := h
    rfl
  · obtain ⟨a, ns, i, rfl, hS, hp, q⟩ := h
    refine ⟨_, (pss_cons (ps_if (pt_cmpR op_lt (pv 1) (pe_callB (Rh.k_len K rfl) (by rfl) B.len PySem.boot_len (pa_cons (pv 0) pa_nil)) (nomark _))
        (pss_one (ps_ret (pe_ix (Rh.k_ixl K rfl) (pv 0) (pv 1) (fun _ _ => rfl)))) pss_nil)
      (pss_one (ps_ret pe_int))), ?_⟩
    show (_ : TS) _ [some (.ref a), some (.int i)] H
    obtain ⟨h0, hl⟩ := hp
    have h0 : 0 ≤ i := h0
    refine q_when (et_test (ev_lt (ev_var rfl) (ev_lenL (ev_var rfl) hS))) (fun hb H1 e1 => ?_) (fun hb H1 e1 => ?_)
    · have hb := of_decide_eq_true hb
      have hc : ns[i.toNat]? = some (cellAt ns i) := by
        unfold cellAt
        rw [List.getD_eq_getElem?_getD, List.getElem?_eq_getElem (by omega)]
        rfl
      exact s_ret (ev_ix (k := i.toNat) (ev_var rfl) (ev_is (ev_var rfl) (by congr 1; omega)) (ex_l e1 hS) hc) fun H2 e2 => RetV.go q (e1.trans e2)
    · have hb := of_decide_eq_false hb
      have hc : cellAt ns i = 0 := by
        unfold cellAt
        rw [List.getD_eq_getElem?_getD, List.getElem?_eq_none (by omega)]
        rfl
      exact s_ret (v := .int (cellAt ns i)) (ev_is ev_c (by rw [hc])) fun H2 e2 => RetV.go q (e1.trans e2)
theorem ok__law_draw {f : Addr} {fd : FuncData} (F : Fun K "_law_draw" "_law_draw" s__law_draw f fd) (g : mg "_law_draw" = some (.ref f)) (B : Bl mg)
    {Y : Nat → Addr} {YH : Addr} (Z : Errs K mg Y YH) :
    Dfn P w K mg base CX0 1 "_law_draw" f fd ["_law_cell", "_law_k", "_law_many"] sp_l_draw := by
  refine ⟨F.ok sc__law_draw (fun vs H Q E h => ?_) (fun cdv A outer s H vs Q E hr h => ?_), F.kp, F.binds (ps := ["_law_cell", "_law_k", "_law_many"]) fun _ _ _ _ _ _ us hl => match us, hl with | [_, _, _], _ => rfl, g⟩
  · obtain ⟨i, j, l, rfl, hp, q⟩ := h
    rfl
  · obtain ⟨i, j, l, rfl, hp, q⟩ := h
    refine ⟨_, (pss_cons (ps_set (i := 3) sc__law_draw.nd rfl (Or.inl rfl) (pe_tup (pa_cons pe_int (pa_cons pe_int (pa_cons pe_int (pa_cons pe_int (pa_cons pe_int (pa_cons pe_int (pa_cons pe_int (pa_cons pe_int (pa_cons pe_int (pa_cons pe_int (pa_cons pe_int (pa_cons pe_int (pa_cons pe_int (pa_cons pe_int (pa_cons pe_int (pa_cons pe_int pa_nil))))))))))))))))))
      (pss_one (ps_ret (pe_op op_mod (pe_op op_mod (pe_op op_add (pe_op Rh.op_mulO (pv 0) pe_int) (pe_op Rh.op_mulO (pv 1) pe_int)) (pe_ix (Rh.k_ixt K rfl) (pv 3) (pe_op op_mod (pv 1) pe_int) (fun _ _ => rfl))) (pv 2))))), ?_⟩
    show (_ : TS) _ [some (.int i), some (.int j), some (.int l), none] H
    have hl : 0 < l := hp
    refine q_asgU (xs := primes.map V.int) (eu_tup (by repeat first | exact ea_nil | refine ea_cons ev_c ?_) (by decide)) fun p H1 hn e1 h1 => ?_
    exact s_ret (ev_mod (ev_mod (ev_add (ev_mulW (ev_var rfl) ev_c (mul_smallR (by decide))) (ev_mulW (ev_var rfl) ev_c (mul_smallR (by decide)))) (ev_ixt (ev_var rfl) (st_of h1) (ev_mod (ev_var rfl) ev_c (by decide)) (prime_atI j)) (prime_pos j)) (ev_var rfl) hl) fun H2 e2 => RetV.go q (e1.trans e2)
theorem ok__law_value {f : Addr} {fd : FuncData} (F : Fun K "_law_value" "_law_value" s__law_value f fd) (g : mg "_law_value" = some (.ref f)) (B : Bl mg)
    {Y : Nat → Addr} {YH : Addr} (Z : Errs K mg Y YH)
    {f__law_draw : Addr} {fd__law_draw : FuncData} (D__law_draw : Dfn P w K mg base CX0 1 "_law_draw" f__law_draw fd__law_draw ["_law_cell", "_law_k", "_law_many"] sp_l_draw) :
    Dfn P w K mg base CX0 2 "_law_value" f fd ["_law_cell", "_law_k", "_law_most"] sp_l_value := by
  refine ⟨F.ok sc__law_value (fun vs H Q E h => ?_) (fun cdv A outer s H vs Q E hr h => ?_), F.kp, F.binds (ps := ["_law_cell", "_law_k", "_law_most"]) fun _ _ _ _ _ _ us hl => match us, hl with | [_, _, _], _ => rfl, g⟩
  · obtain ⟨i, j, l, rfl, hp, q⟩ := h
    rfl
  · obtain ⟨i, j, l, rfl, hp, q⟩ := h
    refine ⟨_, (pss_cons (ps_if (pt_cmpR op_ge (pv 0) (pe_op op_pow pe_int pe_int) (nomark _))
        (pss_one (ps_ret (pe_op op_mod (pe_op op_sub (pv 0) (pe_op op_pow pe_int pe_int)) (pe_op op_pow pe_int pe_int)))) pss_nil)
      (pss_one (ps_ret (Rh.pe_dfn D__law_draw hr (by decide) (by rfl) pass0 (pa_cons (pe_op Rh.op_mulO (pe_op op_add (pv 0) (pe_op Rh.op_mulO pe_int (pv 1))) (pe_op op_add (pe_op op_add (pv 0) (pe_op Rh.op_mulO pe_int (pv 1))) pe_int)) (pa_cons (pe_op op_add (pe_op op_mod (pv 1) pe_int) pe_int) (pa_cons (pv 2) pa_nil))))))), ?_⟩
    show (_ : TS) _ [some (.int i), some (.int j), some (.int l)] H
    obtain ⟨hb, hj, hl⟩ := hp
    have hb : Builtin.Int.intBits i ≤ 1048576 := hb
    have hj : 0 ≤ j ∧ j ≤ 1000 := hj
    refine q_when (et_test (ev_ge (ev_var rfl) (ev_is (ev_pow ev_c ev_c ⟨by decide, by decide, by decide⟩) (congrArg V.int (show _ = t18 by decide))))) (fun hc H1 e1 => ?_) (fun hc H1 e1 => ?_)
    · have hc := of_decide_eq_true hc
      have e : value i j l = (i - t18) % t60 := by unfold value; rw [if_pos hc]
      rw [e] at q
      exact s_ret (ev_mod (ev_sub (ev_var rfl) (ev_is (ev_pow ev_c ev_c ⟨by decide, by decide, by decide⟩) (congrArg V.int (show _ = t18 by decide)))) (ev_is (ev_pow ev_c ev_c ⟨by decide, by decide, by decide⟩) (congrArg V.int (show _ = t60 by decide))) (by decide)) fun H2 e2 => RetV.go q (e1.trans e2)
    · have hc := of_decide_eq_false hc
      have e : value i j l = draw ((i + 977 * j) * (i + 31 * j + 5)) (j % 9 + 1) l := by unfold value; rw [if_neg hc]
      rw [e] at q
      have b1 : Builtin.Int.intBits (i + 977 * j) ≤ 1048577 := bits_add hb (bits_mono (bits_small ⟨by omega, by omega⟩) (by decide))
      have b2 : Builtin.Int.intBits (i + 31 * j + 5) ≤ 1048578 := bits_add (bits_add hb (bits_mono (bits_small ⟨by omega, by omega⟩) (by decide))) (bits_mono (bits_small ⟨by decide, by decide⟩) (by decide))
      exact s_ret (ev_call (ea_three (ev_mulW (ev_add (ev_var rfl) (ev_mulW ev_c (ev_var rfl) (mul_small (by decide)))) (ev_add (ev_add (ev_var rfl) (ev_mulW ev_c (ev_var rfl) (mul_small (by decide)))) ev_c) (mul_bits b1 b2 (by decide))) (ev_add (ev_mod (ev_var rfl) ev_c (by decide)) ev_c) (ev_var rfl)) (go_iii hl rfl)) fun H2 e2 => RetV.go q (e1.trans e2)
theorem ok__law_heap {f : Addr} {fd : FuncData} (F : Fun K "_law_heap" "_law_heap" s__law_heap f fd) (g : mg "_law_heap" = some (.ref f)) (B : Bl mg)
    {Y : Nat → Addr} {YH : Addr} (Z : Errs K mg Y YH)
    {f__law_draw : Addr} {fd__law_draw : FuncData} (D__law_draw : Dfn P w K mg base CX0 1 "_law_draw" f__law_draw fd__law_draw ["_law_cell", "_law_k", "_law_many"] sp_l_draw)
    {f__law_cell_at : Addr} {fd__law_cell_at : FuncData} (D__law_cell_at : Dfn P w K mg base CX0 1 "_law_cell_at" f__law_cell_at fd__law_cell_at ["_law_script", "_law_k"] (sp_l_cell_at K))
    {f__law_value : Addr} {fd__law_value : FuncData} (D__law_value : Dfn P w K mg base CX0 2 "_law_value" f__law_value fd__law_value ["_law_cell", "_law_k", "_law_most"] sp_l_value) :
    Dfn P w K mg base CX0 3 "_law_heap" f fd ["_law_script", "_law_by"] (sp_l_heap K) := by
  refine ⟨F.ok sc__law_heap (fun vs H Q E h => ?_) (fun cdv A outer s H vs Q E hr h => ?_), F.kp, F.binds (ps := ["_law_script", "_law_by"]) fun _ _ _ _ _ _ us hl => match us, hl with | [_, _], _ => rfl, g⟩
  · obtain ⟨a, ns, i, rfl, hS, hp, q⟩ := h
    rfl
  · obtain ⟨a, ns, i, rfl, hS, hp, q⟩ := h
    refine ⟨_, (pss_cons (ps_set (i := 0) sc__law_heap.nd rfl (Or.inl rfl) (pe_slice (Rh.k_sll K rfl) (pv 0) po_none (po_some pe_int)))
      (pss_cons (ps_set (i := 2) sc__law_heap.nd rfl (Or.inl rfl) (Rh.pe_dfn D__law_draw hr (by decide) (by rfl) pass0 (pa_cons (pe_op op_add (Rh.pe_dfn D__law_cell_at hr (by decide) (by rfl) pass0 (pa_cons (pv 0) (pa_cons pe_int pa_nil))) (pv 1)) (pa_cons pe_int (pa_cons pe_int pa_nil)))))
      (pss_cons (ps_set (i := 3) sc__law_heap.nd rfl (Or.inr rfl) (pe_ix (Rh.k_ixt K rfl) (pe_tup (pa_cons pe_int (pa_cons pe_int (pa_cons pe_int (pa_cons pe_int pa_nil))))) (Rh.pe_dfn D__law_draw hr (by decide) (by rfl) pass0 (pa_cons (pe_op op_add (Rh.pe_dfn D__law_cell_at hr (by decide) (by rfl) pass0 (pa_cons (pv 0) (pa_cons pe_int pa_nil))) (pv 1)) (pa_cons pe_int (pa_cons pe_int pa_nil)))) (fun _ _ => rfl)))
      (pss_cons (ps_setLc (i := 6) (own := [("_law_k", 4), ("_law_cell", 5)]) (g := (Rh.g2 K 4 5)) (tt := tYes)  rfl sc__law_heap.nd rfl rfl (sw_true rfl rfl rfl (by decide +kernel)) (pi_enum (by rfl) B.enumerate (pa_cons (pv 0) pa_nil)) (blkOk_by (N := ["_law_script", "_law_by", "_law_kind", "_law_most", "_law_k", "_law_cell", "_law_rows", "_law_total"]) (sc := defScope s__law_heap) (by decide +kernel)) (fun _ _ _ _ _ => (pg_tup rfl (pgs_cons (pg_name (i := 4) sc__law_heap.nd rfl (Or.inl rfl)) (pgs_cons (pg_name (i := 5) sc__law_heap.nd rfl (Or.inl rfl)) pgs_nil)))) (fun _ _ _ _ _ => pts_nil) (fun _ _ _ _ _ => (pe_op op_add pe_int (Rh.pe_dfn D__law_value hr (by decide) (by rfl) pass0 (pa_cons (pv 5) (pa_cons (pe_op op_add (pv 4) (pv 1)) (pa_cons (pv 3) pa_nil)))))))
      (pss_cut (ps_if (pt_cmpR op_eq (pv 2) pe_int (nomark _))
        (pss_cons (ps_par (i := 7) (j := 6) rfl sc__law_heap.nd rfl rfl (by decide) rfl rfl (pa_cons pe_int (pa_cons (pe_lst pa_nil) pa_nil)) (by rfl))
      (pss_one (ps_for PassesOwn.never rfl (pi_enum (by rfl) B.enumerate (pa_cons (pv 0) pa_nil)) (pg_tup rfl (pgs_cons (pg_name (i := 4) sc__law_heap.nd rfl (Or.inl rfl)) (pgs_cons (pg_name (i := 5) sc__law_heap.nd rfl (Or.inl rfl)) pgs_nil)))
        (pss_cons (ps_set (i := 7) sc__law_heap.nd rfl (Or.inl rfl) (pe_op op_add (pv 7) (Rh.pe_dfn D__law_value hr (by decide) (by rfl) pass0 (pa_cons (pv 5) (pa_cons (pe_op op_add (pv 4) (pv 1)) (pa_cons pe_int pa_nil))))))
      (pss_one (ps_expr (pe_bm PySem.F.plainAttrs_list PySem.F.slot_list_append PySem.F.type_list_append mt_append (pv 6) (pa_cons (pv 7) pa_nil)))))))) pss_nil)
      (pss_cut (ps_if (pt_cmpR op_eq (pv 2) pe_int (nomark _))
        (pss_one (ps_set (i := 6) sc__law_heap.nd rfl (Or.inl rfl) (pe_op op_rep (pe_slice (Rh.k_sll K rfl) (pv 6) po_none (po_some pe_int)) pe_int))) pss_nil)
      (pss_one (ps_ret (pe_callBK (Rh.k_sorted (b := true) K rfl) (by rfl) B.sorted boot_sorted (pa_cons (pv 6) pa_nil) (pk_cons pe_bl pk_nil)))))))))), ?_⟩
    show (_ : TS) _ [some (.ref a), some (.int i), none, none, none, none, none, none] H
    obtain ⟨⟨hB, hl⟩, hi⟩ := hp
    have hl : ns.length ≤ 30000 := hl
    have hi : 0 ≤ i ∧ i ≤ 100 := hi
    have hB1 : Bits (ns.take 63) := fun z hz => hB z (List.mem_of_mem_take hz)
    have hl1 : (ns.take 63).length ≤ 63 := by rw [List.length_take]; omega
    have m1 := most_at (ns.take 63) i
    refine q_asgL (el_takeI (k := 63) (ev_var rfl) hS ev_c) fun p H1 hn e1 h1 => ?_
    have s1 := sq_map (K := K) h1
    have hl2 : Len (ns.take 63) := by show _ ≤ 30000; omega
    refine q_asg (ev_call (ea_three (ev_add (ev_call (ea_two (ev_var rfl) ev_c) (go_Liv s1 ⟨by decide, hl2⟩ rfl)) (ev_var rfl)) ev_c ev_c) (go_iii (show (0 : Int) < 6 by decide) rfl)) fun H2 e2 => ?_
    have s2 := ex_l e2 s1
    refine q_asg (v := .int (mostM (ns.take 63) i)) (ev_ixtN (eu_tup (vs := ([3, 9, 70, 900000] : List Int).map V.int) (ea_cons ev_c (ea_cons ev_c (ea_cons ev_c (ea_cons ev_c ea_nil)))) (by decide)) (ev_call (ea_three (ev_add (ev_call (ea_two (ev_var rfl) ev_c) (go_Liv s2 ⟨by decide, hl2⟩ rfl)) (ev_var rfl)) ev_c ev_c) (go_iii (show (0 : Int) < 4 by decide) rfl)) (most_atI _ _)) fun H3 e3 => ?_
    have s3 := ex_l e3 s2
    refine q_asgL (xs := (rows0 (ns.take 63) i).map V.int) ?_ fun p4 H4 hn4 e4 h4 => ?_
    · refine el_cEm V.int _ (ev_var rfl) s3 (by omega) (fun _ _ => rfl) fun n k hk => ?_
      have hk1 : k < (ns.take 63).length := (List.getElem?_eq_some_iff.mp hk).1
      exact ev_add ev_c (ev_call (ea_three (ev_var rfl) (ev_add (ev_var rfl) (ev_var rfl)) (ev_var rfl)) (go_iii ⟨hB1 n (List.mem_of_getElem? hk), by omega, m1.2.1⟩ rfl))
    have s4 := ex_l e4 s3
    refine q_cut (M := fun σ' H' => ∃ y4 y5 p6 y7, σ' = [some (.ref p), some (.int i), some (.int (kindM (ns.take 63) i)), some (.int (mostM (ns.take 63) i)), y4, y5, some (.ref p6), y7] ∧ Ex H H' ∧ H' p6 = some (.lst ((rows1 (ns.take 63) i).map V.int))) ?_ ?_
    · refine s_when (et_test (ev_eqI (ev_var rfl) ev_c)) (fun hb H5 e5 => ?_) (fun hb H5 e5 => ?_)
      · have hb : kindM (ns.take 63) i = 0 := of_decide_eq_true hb
        have er : rows1 (ns.take 63) i = psums i (ns.take 63) := by unfold rows1; rw [if_pos hb]
        rw [er]
        have e05 := (((e1.trans e2).trans e3).trans e4).trans e5
        refine q_parXL ev_c el_nil fun p6 H6 hn6 e6 h6 => ?_
        have hp6 : H p6 = none := fresh_back e05 hn6
        have s6 := ex_l (e5.trans e6) s4
        refine s_forE (ev_var rfl) s6 (fun pre σ' H' => ∃ y4 y5, σ' = [some (.ref p), some (.int i), some (.int (kindM (ns.take 63) i)), some (.int (mostM (ns.take 63) i)), y4, y5, some (.ref p6), some (.int (tot i pre))] ∧ Ex H5 H' ∧ H' p6 = some (.lst ((psums i pre).map V.int))) (fun H7 e7 => ⟨none, none, rfl, e6.trans e7, e7 _ _ h6⟩) (fun pre σ' H' w => ?_) (fun pre n post A σ' H' hn w hA => ?_) fun σ' H' w => ?_
        · obtain ⟨_, _, _, e, _⟩ := w
          exact ex_l (e5.trans e) s4
        · obtain ⟨y4, y5, rfl, e, hk⟩ := w
          have hpl : pre.length < (ns.take 63).length := by rw [hn]; simp
          have hmem : n ∈ ns.take 63 := by rw [hn]; simp
          refine q_asg (ev_add (ev_var rfl) (ev_call (ea_three (ev_var rfl) (ev_add (ev_var rfl) (ev_var rfl)) ev_c) (go_iii ⟨hB1 n hmem, by omega, by decide⟩ rfl))) fun H8 e8 => ?_
          refine s_appI (e8 _ _ (Ex.new hA _ _ hk)) (ev_var rfl) (ev_var rfl) (by rw [show (psums i pre).length = pre.length by simp [psums]]; omega) fun H9 e9 => ?_
          rw [psums_snoc, tot_snoc]
          exact ⟨_, _, rfl, (((e.trans (Ex.new hA)).trans e8).trans e9).mut hn6, upd_same⟩
        · obtain ⟨y4, y5, rfl, e, hk⟩ := w
          exact ⟨_, _, _, _, rfl, e05.trans e, hk⟩
      · have hb : ¬ kindM (ns.take 63) i = 0 := of_decide_eq_false hb
        have er : rows1 (ns.take 63) i = rows0 (ns.take 63) i := by unfold rows1; rw [if_neg hb]
        rw [er]
        exact ⟨_, _, _, _, rfl, (((e1.trans e2).trans e3).trans e4).trans e5, e5 _ _ h4⟩
    · rintro σ' H5 ⟨y4, y5, p6, y7, rfl, e5, h5⟩
      have hl3 := rows1_ok (ns.take 63) i hl1
      refine q_cut (M := fun σ' H' => ∃ p6, σ' = [some (.ref p), some (.int i), some (.int (kindM (ns.take 63) i)), some (.int (mostM (ns.take 63) i)), y4, y5, some (.ref p6), y7] ∧ Ex H H' ∧ H' p6 = some (.lst ((rows2 (ns.take 63) i).map V.int))) ?_ ?_
      · refine s_when (et_test (ev_eqI (ev_var rfl) ev_c)) (fun hb H6 e6 => ?_) (fun hb H6 e6 => ?_)
        · have hb : kindM (ns.take 63) i = 1 := of_decide_eq_true hb
          have er : rows2 (ns.take 63) i = (rows1 (ns.take 63) i).take 40 ++ (rows1 (ns.take 63) i).take 40 := by unfold rows2; rw [if_pos hb]
          rw [er]
          refine s_asgL (el_as (el_repN (k := 2) (el_takeI (k := 40) (ev_var rfl) (ex_l e6 (sq_map h5)) ev_c) ev_c (by decide) rfl (by rw [List.length_map, List.length_take]; omega)) ?_) fun p7 H7 hn7 e7 h7 => ⟨p7, rfl, (e5.trans e6).trans e7, h7⟩
          rw [List.map_append]
          simp [List.replicate]
        · have hb : ¬ kindM (ns.take 63) i = 1 := of_decide_eq_false hb
          have er : rows2 (ns.take 63) i = rows1 (ns.take 63) i := by unfold rows2; rw [if_neg hb]
          rw [er]
          exact ⟨p6, rfl, e5.trans e6, e6 _ _ h5⟩
      · rintro σ' H6 ⟨p6, rfl, e6, h6⟩
        exact s_retL (el_sortedR (ev_var rfl) (sq_map h6)) fun p7 H7 hn7 e7 h7 => RetL.go q e6 hn7 e7 h7
theorem ok_is_whole {f : Addr} {fd : FuncData} (F : Fun K "is_whole" "is_whole" s_is_whole f fd) (g : mg "is_whole" = some (.ref f)) (B : Bl mg)
    {Y : Nat → Addr} {YH : Addr} (Z : Errs K mg Y YH) :
    Dfn P w K mg base CX0 1 "is_whole" f fd ["thing"] (sp5_is_whole ) := by
  refine ⟨F.ok sc_is_whole (fun vs H Q E h => ?_) (fun cdv A outer s H vs Q E hr h => ?_), F.kp, F.binds (ps := ["thing"]) fun _ _ _ _ _ _ us hl => match us, hl with | [_], _ => rfl, g⟩
  · obtain ⟨v, rfl, hk, q⟩ := h
    rfl
  · obtain ⟨v, rfl, hk, q⟩ := h
    refine ⟨_, (pss_one (ps_ret (pe_and (pe_callB (Rh.k_isi K rfl) (by rfl) B.isinstance boot_isinstance (pa_cons (pv 0) (pa_cons (pe_bltn (v := .ty "int") (by rfl) B.int boot_int rfl) pa_nil))) (pe_one (pe_not (pe_callB (Rh.k_isi K rfl) (by rfl) B.isinstance boot_isinstance (pa_cons (pv 0) (pa_cons (pe_bltn (v := .ty "bool") (by rfl) B.bool boot_bool rfl) pa_nil)))))))), ?_⟩
    show (_ : TS) _ [some (v)] H
    obtain ⟨b1, b2, h1, h2, he⟩ := hk.isa (K := K)
    exact s_ret (ev_is (ev_andV (ev_isa (ev_var rfl) h1) fun _ => ev_notV (ev_isa (ev_var rfl) h2)) (by rw [he])) fun H1 e => q H1 e
theorem ok_is_heap {f : Addr} {fd : FuncData} (F : Fun K "is_heap" "is_heap" s_is_heap f fd) (g : mg "is_heap" = some (.ref f)) (B : Bl mg)
    {Y : Nat → Addr} {YH : Addr} (Z : Errs K mg Y YH)
    {f_is_whole : Addr} {fd_is_whole : FuncData} (D_is_whole : Dfn P w K mg base CX0 1 "is_whole" f_is_whole fd_is_whole ["thing"] (sp5_is_whole )) :
    Dfn P w K mg base CX0 2 "is_heap" f fd ["thing"] (sp5_is_heap K) := by
  refine ⟨F.ok sc_is_heap (fun vs H Q E h => ?_) (fun cdv A outer s H vs Q E hr h => ?_), F.kp, F.binds (ps := ["thing"]) fun _ _ _ _ _ _ us hl => match us, hl with | [_], _ => rfl, g⟩
  · obtain ⟨v, b, rfl, hj, q⟩ := h
    rfl
  · obtain ⟨v, b, rfl, hj, q⟩ := h
    refine ⟨_, (pss_cons (ps_if (PW.pt (pw_or (pt_not (pt_val (pe_callB (Rh.k_isi K rfl) (by rfl) B.isinstance boot_isinstance (pa_cons (pv 0) (pa_cons (pe_bltn (v := .ty "list") (by rfl) B.list boot_list rfl) pa_nil))))) (pw_or1 (pt_not (pt_val (pe_callB (Rh.k_all K rfl (by rfl)) (by rfl) B.all boot_all (pa_cons (pe_lc (own := [("number", 2)]) (g := (gName 2)) (tt := tYes)  (by rfl) sc_is_heap.nd (pi_list (pv 0)) (blkOk_by (N := ["thing", "at", "number"]) (sc := defScope s_is_heap) (by decide +kernel)) (fun _ _ _ _ _ => (pg_name (i := 2) sc_is_heap.nd rfl (Or.inl rfl))) (fun _ _ _ _ _ => pts_nil) (fun _ _ _ _ _ => (pe_and (Rh.pe_dfn D_is_whole hr (by decide) (by rfl) pass0 (pa_cons (pv 2) pa_nil)) (pe_one (pe_cmpR op_gt (pv 2) pe_int (nomark _)))))) pa_nil)))))))
        (pss_one (ps_ret pe_bl)) pss_nil)
      (pss_one (ps_ret (pe_callB (Rh.k_all K rfl (by rfl)) (by rfl) B.all boot_all (pa_cons (pe_lc (own := [("at", 1)]) (g := (gName 1)) (tt := tYes)  (by rfl) sc_is_heap.nd (pi_range2 (by rfl) B.range (pa_cons pe_int (pa_cons (pe_callB (Rh.k_len K rfl) (by rfl) B.len PySem.boot_len (pa_cons (pv 0) pa_nil)) pa_nil))) (blkOk_by (N := ["thing", "at", "number"]) (sc := defScope s_is_heap) (by decide +kernel)) (fun _ _ _ _ _ => (pg_name (i := 1) sc_is_heap.nd rfl (Or.inl rfl))) (fun _ _ _ _ _ => pts_nil) (fun _ _ _ _ _ => (pe_cmpR op_le (pe_ix (Rh.k_ixl K rfl) (pv 0) (pv 1) (fun _ _ => rfl)) (pe_ix (Rh.k_ixl K rfl) (pv 0) (pe_op op_sub (pv 1) pe_int) (fun _ _ => rfl)) (nomark _)))) pa_nil))))), ?_⟩
    show (_ : TS) _ [some (v), none, none] H
    cases hj with
    | no k => exact q_when (b := true) (et_is (et_or (b := false) (et_not (et_B (ev_isa (b := false) (ev_var rfl) fun H' e => (k.ex e).noList))) fun h => nomatch h) rfl) (fun _ H1 e1 => s_ret ev_c fun H2 e2 => RetV.go q (e1.trans e2)) (fun h => nomatch h)
    | @lst a xs hS k hl =>
      have hcomp : ∀ {H1 : Hp}, Ex H H1 → ∀ σ : L2.St, σ = [some (.ref a), none, none] → EvL (tLc (iList K (tVar 0)) (gName 2) tYes (tAndV (tCall sp5_is_whole [] E0 (tCons (tVar 2) tNil)) (tOp (rI0 fun i j => .bl (decide (j < i))) (tVar 2) (tC (.int 0)))) [2]) σ H1 ((xs.map posV).map V.bl) := fun {H1} e σ hs => by
        subst hs
        have e0 : (xs.map posV).map V.bl = xs.filterMap fun x => some (V.bl (posV x)) := by
          rw [List.map_map]
          exact (congrFun (List.filterMap_eq_map (f := fun x => V.bl (posV x))) _).symm
        rw [e0]
        refine el_cX _ (ev_var rfl) (ex_l e hS) (by omega) (fun _ => rfl) (fun _ _ => et_yes) fun x hx y hy => ?_
        cases hy
        have kx := (k x hx).ex e
        cases hw : wholeV x with
        | false =>
          have hp : posV x = false := by cases x <;> first | rfl | cases hw
          rw [hp]
          have hg : SpV sp5_is_whole [x] H1 (.bl false) := by rw [← hw]; exact go_w kx
          exact ev_is (ev_andV (a := false) (b := false) (ev_call (ea_one (ev_var rfl)) hg) fun h => nomatch h) rfl
        | true =>
          obtain ⟨n, rfl⟩ := whole_int hw
          exact ev_is (ev_andV (ev_call (ea_one (ev_var rfl)) (go_w kx)) fun _ => ev_gt (ev_var rfl) ev_c) rfl
      have hall : ((xs.map posV).all id) = xs.all posV := by rw [List.all_map]; rfl
      refine q_when (et_or (et_not (et_B (ev_isiL (b := true) (ev_var rfl) hS (by decide +kernel)))) fun _ => et_not (et_B (ev_allN (hcomp (Ex.refl H) _ rfl)))) (fun hb H1 e1 => ?_) (fun hb H1 e1 => ?_)
      · have hf : heapB xs = false := by
          unfold heapB
          rw [hall] at hb
          cases hx : xs.all posV
          · rfl
          · rw [hx] at hb
            cases hb
        rw [hf] at q
        exact s_ret ev_c fun H2 e2 => RetV.go q (e1.trans e2)
      · have hp : xs.all posV = true := by
          rw [hall] at hb
          cases hx : xs.all posV
          · rw [hx] at hb
            cases hb
          · rfl
        have hxs := all_pos hp
        have hh : heapB xs = fallsB (xs.map intV) := by
          unfold heapB
          rw [hp]
          rfl
        rw [hh] at q
        rw [hxs] at hS
        generalize hns : xs.map intV = ns at hS q
        have hnl : ns.length ≤ 30000 := by rw [← hns, List.length_map]; exact hl
        have s1 := ex_l e1 hS
        refine s_ret (v := .bl (fallsB ns)) (ev_allN (bs := (List.range ((ns.length : Int) - 1).toNat).map fun k => decide (ns.getD (k + 1) 0 ≤ ns.getD k 0)) ?_) fun H2 e2 => RetV.go q (e1.trans e2)
        refine el_cR2 V.bl _ (ea_cons ev_c (ea_cons (ev_lenL (ev_var rfl) s1) ea_nil)) (by omega) (fun _ => rfl) fun k hk => ?_
        have h1 : k + 1 < ns.length := by omega
        have g1 : ns[k + 1]? = some (ns.getD (k + 1) 0) := by rw [List.getD_eq_getElem?_getD, List.getElem?_eq_getElem h1]; rfl
        have g2 : ns[k]? = some (ns.getD k 0) := by rw [List.getD_eq_getElem?_getD, List.getElem?_eq_getElem (by omega)]; rfl
        exact ev_le (ev_ix (ev_var rfl) (ev_is (ev_var rfl) (by show V.int (1 + (k : Int)) = V.int ((k + 1 : Nat) : Int); congr 1; omega)) s1 g1) (ev_ix (ev_var rfl) (ev_is (ev_sub (ev_var rfl) ev_c) (by congr 1; omega)) s1 g2)
theorem ok_check_heap {f : Addr} {fd : FuncData} (F : Fun K "check_heap" "check_heap" s_check_heap f fd) (g : mg "check_heap" = some (.ref f)) (B : Bl mg)
    {Y : Nat → Addr} {YH : Addr} (Z : Errs K mg Y YH)
    {f_is_heap : Addr} {fd_is_heap : FuncData} (D_is_heap : Dfn P w K mg base CX0 2 "is_heap" f_is_heap fd_is_heap ["thing"] (sp5_is_heap K)) :
    Dfn P w K mg base (L2.CX P w) 3 "check_heap" f fd ["heap"] (sp5_check_heap K Y) := by
  refine ⟨F.okX sc_check_heap (fun vs H Q E h => ?_) (fun cdv A outer s H vs Q E hr h => ?_), F.kp, F.binds (ps := ["heap"]) fun _ _ _ _ _ _ us hl => match us, hl with | [_], _ => rfl, g⟩
  · obtain ⟨v, b, rfl, hj, qt, qf⟩ := h
    rfl
  · obtain ⟨v, b, rfl, hj, qt, qf⟩ := h
    refine ⟨_, (pss_one (ps_if (pt_not (pt_val (Rh.pe_dfn D_is_heap hr (by decide) (by rfl) pass0 (pa_cons (pv 0) pa_nil))))
        (pss_one (Rh.ps_refuse Z.e0 rfl (takes_of rfl rfl rfl rfl) (by rfl))) pss_nil)), ?_⟩
    show (_ : TS) _ [some (v)] H
    cases b with
    | true => exact s_if (b := false) (et_is (et_not (et_B (ev_call (ea_one (ev_var rfl)) (go_ih hj)))) rfl) (fun h => nomatch h) fun _ H1 e1 => qt rfl H1 e1
    | false => exact s_if (b := true) (et_is (et_not (et_B (ev_call (ea_one (ev_var rfl)) (go_ih hj)))) rfl) (fun _ H1 e1 => s_raise (qf rfl H1 e1)) (fun h => nomatch h)
theorem ok_marks_of {f : Addr} {fd : FuncData} (F : Fun K "marks_of" "marks_of" s_marks_of f fd) (g : mg "marks_of" = some (.ref f)) (B : Bl mg)
    {Y : Nat → Addr} {YH : Addr} (Z : Errs K mg Y YH) :
    Dfn P w K mg base CX0 1 "marks_of" f fd ["heap"] (sp_marks_of K) := by
  refine ⟨F.ok sc_marks_of (fun vs H Q E h => ?_) (fun cdv A outer s H vs Q E hr h => ?_), F.kp, F.binds (ps := ["heap"]) fun _ _ _ _ _ _ us hl => match us, hl with | [_], _ => rfl, g⟩
  · obtain ⟨a, ns, rfl, hS, hp, q⟩ := h
    rfl
  · obtain ⟨a, ns, rfl, hS, hp, q⟩ := h
    refine ⟨_, (pss_one (ps_ret (pe_lc (own := [("at", 1), ("number", 2)]) (g := (Rh.g2 K 1 2)) (tt := tYes)  (by rfl) sc_marks_of.nd (pi_enum (by rfl) B.enumerate (pa_cons (pv 0) pa_nil)) (blkOk_by (N := ["heap", "at", "number"]) (sc := defScope s_marks_of) (by decide +kernel)) (fun _ _ _ _ _ => (pg_tup rfl (pgs_cons (pg_name (i := 1) sc_marks_of.nd rfl (Or.inl rfl)) (pgs_cons (pg_name (i := 2) sc_marks_of.nd rfl (Or.inl rfl)) pgs_nil)))) (fun _ _ _ _ _ => pts_nil) (fun _ _ _ _ _ => (pe_op op_sub (pe_op op_sub (pe_op op_add (pv 2) (pe_callB (Rh.k_len K rfl) (by rfl) B.len PySem.boot_len (pa_cons (pv 0) pa_nil))) pe_int) (pv 1)))))), ?_⟩
    show (_ : TS) _ [some (.ref a), none, none] H
    refine s_retL (xs := (marksOf ns).map V.int) ?_ fun p H1 hn e h1 => q p H1 hn e h1
    rw [← marks_comp]
    refine el_cEm V.int _ (ev_var rfl) hS (by have : Len ns := hp; omega) (fun _ _ => rfl) fun n k hk => ?_
    walk_at "ev"
theorem ok_marks_by {f : Addr} {fd : FuncData} (F : Fun K "marks_by" "marks_by" s_marks_by f fd) (g : mg "marks_by" = some (.ref f)) (B : Bl mg)
    {Y : Nat → Addr} {YH : Addr} (Z : Errs K mg Y YH)
    {f_check_heap : Addr} {fd_check_heap : FuncData} (D_check_heap : Dfn P w K mg base (L2.CX P w) 3 "check_heap" f_check_heap fd_check_heap ["heap"] (sp5_check_heap K Y))
    {f_marks_of : Addr} {fd_marks_of : FuncData} (D_marks_of : Dfn P w K mg base CX0 1 "marks_of" f_marks_of fd_marks_of ["heap"] (sp_marks_of K)) :
    Dfn P w K mg base (L2.CX P w) 4 "marks_by" f fd ["heap"] (sp5_one K Y) := by
  refine ⟨F.okX sc_marks_by (fun vs H Q E h => ?_) (fun cdv A outer s H vs Q E hr h => ?_), F.kp, F.binds (ps := ["heap"]) fun _ _ _ _ _ _ us hl => match us, hl with | [_], _ => rfl, g⟩
  · obtain ⟨v, rfl, hj, hx⟩ := h
    rfl
  · obtain ⟨v, rfl, hj, hx⟩ := h
    refine ⟨_, (pss_cons (ps_expr (Rh.pe_dfn D_check_heap hr (by decide) (by rfl) (Rh.passE rfl rfl rfl rfl) (pa_cons (pv 0) pa_nil)))
      (pss_one (ps_ret (Rh.pe_dfn D_marks_of hr (by decide) (by rfl) pass0 (pa_cons (pv 0) pa_nil))))), ?_⟩
    show (_ : TS) _ [some (v)] H
    exact q_dropX (ex_call (ea_one (ev_var rfl)) (sx_ch hj) hx)
theorem ok_squares {f : Addr} {fd : FuncData} (F : Fun K "squares" "squares" s_squares f fd) (g : mg "squares" = some (.ref f)) (B : Bl mg)
    {Y : Nat → Addr} {YH : Addr} (Z : Errs K mg Y YH)
    {f_check_heap : Addr} {fd_check_heap : FuncData} (D_check_heap : Dfn P w K mg base (L2.CX P w) 3 "check_heap" f_check_heap fd_check_heap ["heap"] (sp5_check_heap K Y)) :
    Dfn P w K mg base (L2.CX P w) 4 "squares" f fd ["heap"] (sp5_one K Y) := by
  refine ⟨F.okX sc_squares (fun vs H Q E h => ?_) (fun cdv A outer s H vs Q E hr h => ?_), F.kp, F.binds (ps := ["heap"]) fun _ _ _ _ _ _ us hl => match us, hl with | [_], _ => rfl, g⟩
  · obtain ⟨v, rfl, hj, hx⟩ := h
    rfl
  · obtain ⟨v, rfl, hj, hx⟩ := h
    refine ⟨_, (pss_cons (ps_expr (Rh.pe_dfn D_check_heap hr (by decide) (by rfl) (Rh.passE rfl rfl rfl rfl) (pa_cons (pv 0) pa_nil)))
      (pss_one (ps_ret (pe_callB (Rh.k_sum K rfl (by rfl)) (by rfl) B.sum boot_sum (pa_cons (pv 0) pa_nil))))), ?_⟩
    show (_ : TS) _ [some (v)] H
    exact q_dropX (ex_call (ea_one (ev_var rfl)) (sx_ch hj) hx)
theorem ok_hook {f : Addr} {fd : FuncData} (F : Fun K "hook" "hook" s_hook f fd) (g : mg "hook" = some (.ref f)) (B : Bl mg)
    {Y : Nat → Addr} {YH : Addr} (Z : Errs K mg Y YH)
    {f_check_heap : Addr} {fd_check_heap : FuncData} (D_check_heap : Dfn P w K mg base (L2.CX P w) 3 "check_heap" f_check_heap fd_check_heap ["heap"] (sp5_check_heap K Y))
    {f_is_whole : Addr} {fd_is_whole : FuncData} (D_is_whole : Dfn P w K mg base CX0 1 "is_whole" f_is_whole fd_is_whole ["thing"] (sp5_is_whole )) :
    Dfn P w K mg base (L2.CX P w) 4 "hook" f fd ["heap", "row", "square"] (sp5_hook K Y) := by
  refine ⟨F.okX sc_hook (fun vs H Q E h => ?_) (fun cdv A outer s H vs Q E hr h => ?_), F.kp, F.binds (ps := ["heap", "row", "square"]) fun _ _ _ _ _ _ us hl => match us, hl with | [_, _, _], _ => rfl, g⟩
  · obtain ⟨h, r, s, rfl, hc⟩ := h
    rfl
  · obtain ⟨h, r, s, rfl, hc⟩ := h
    refine ⟨_, (pss_cons (ps_expr (Rh.pe_dfn D_check_heap hr (by decide) (by rfl) (Rh.passE rfl rfl rfl rfl) (pa_cons (pv 0) pa_nil)))
      (pss_cons (ps_if (PW.pt (pw_or (pt_not (pt_val (Rh.pe_dfn D_is_whole hr (by decide) (by rfl) pass0 (pa_cons (pv 1) pa_nil)))) (pw_or (pt_not (pt_chain op_le op_lt pe_int (pv 1) (pe_callB (Rh.k_len K rfl) (by rfl) B.len PySem.boot_len (pa_cons (pv 0) pa_nil)))) (pw_or (pt_not (pt_val (Rh.pe_dfn D_is_whole hr (by decide) (by rfl) pass0 (pa_cons (pv 2) pa_nil)))) (pw_or1 (pt_not (pt_chain op_le op_lt pe_int (pv 2) (pe_ix (Rh.k_ixl K rfl) (pv 0) (pv 1) (fun _ _ => rfl)))))))))
        (pss_one (Rh.ps_refuse Z.e2 rfl (takes_of rfl rfl rfl rfl) (by rfl))) pss_nil)
      (pss_cons (ps_set (i := 3) sc_hook.nd rfl (Or.inl rfl) (pe_callB (Rh.k_len K rfl) (by rfl) B.len PySem.boot_len (pa_cons (pe_lc (own := [("number", 4)]) (g := (gName 4))  (by rfl) sc_hook.nd (pi_list (pe_slice (Rh.k_sll K rfl) (pv 0) (po_some (pe_op op_add (pv 1) pe_int)) po_none)) (blkOk_by (N := ["heap", "row", "square", "beneath", "number"]) (sc := defScope s_hook) (by decide +kernel)) (fun _ _ _ _ _ => (pg_name (i := 4) sc_hook.nd rfl (Or.inl rfl))) (fun _ _ _ _ _ => (pts_one (pt_cmpR op_gt (pv 4) (pv 2) (nomark _)))) (fun _ _ _ _ _ => (pv 4))) pa_nil)))
      (pss_one (ps_ret (pe_op op_add (pe_op op_sub (pe_ix (Rh.k_ixl K rfl) (pv 0) (pv 1) (fun _ _ => rfl)) (pv 2)) (pv 3))))))), ?_⟩
    show (_ : TS) _ [some (h), some (r), some (s), none, none] H
    rcases hc with ⟨hj, hx⟩ | ⟨ns, g, kr, ks, hp, hx⟩
    · exact q_dropX (ex_call (ea_one (ev_var rfl)) (sx_ch hj) hx)
    · refine q_chk (ev_call (ea_one (ev_var rfl)) (go_ch g.hj)) fun H1 e1 => ?_
      obtain ⟨a, rfl, hS, hH, hl⟩ := g
      have s1 := ex_l e1 hS
      have kr1 := kr.ex e1
      have ks1 := ks.ex e1
      rw [place_eq] at hp
      refine q_when (b := true) (et_is (et_or (b := !((decide (0 ≤ intV r) && decide (intV r < ns.length))) || (!wholeV s || !(decide (0 ≤ intV s) && decide (intV s < ns.getD (intV r).toNat 0)))) (et_not (et_B (ev_call (ea_one (ev_var rfl)) (go_w kr1)))) fun hw => ?_) ?_) (fun _ H2 e2 => s_raise (hx H2 (e1.trans e2))) (fun h => nomatch h)
      · have hw : wholeV r = true := by simpa using hw
        obtain ⟨i, rfl⟩ := whole_int hw
        refine et_or (et_not (et_test (ev_chainLL ev_c (ev_var rfl) fun _ => ev_lenL (ev_var rfl) s1))) fun hr => et_or (et_not (et_B (ev_call (ea_one (ev_var rfl)) (go_w ks1)))) fun hv => ?_
        have hr : (decide (0 ≤ i) && decide (i < (ns.length : Int))) = true := by
          have : (!(decide (0 ≤ i) && decide (i < (ns.length : Int)))) = false := hr
          cases hq : (decide (0 ≤ i) && decide (i < (ns.length : Int)))
          · rw [hq] at this
            cases this
          · rfl
        rw [Bool.and_eq_true] at hr
        have h0 := of_decide_eq_true hr.1
        have h1 := of_decide_eq_true hr.2
        have hv : wholeV s = true := by simpa using hv
        obtain ⟨j, rfl⟩ := whole_int hv
        have hr1 : ns[i.toNat]? = some (ns.getD i.toNat 0) := by rw [List.getD_eq_getElem?_getD, List.getElem?_eq_getElem (by omega)]; rfl
        exact et_not (et_test (ev_chainLL ev_c (ev_var rfl) fun _ => ev_ix (k := i.toNat) (ev_var rfl) (ev_is (ev_var rfl) (by congr 1; omega)) s1 hr1))
      · revert hp
        cases wholeV r <;> cases wholeV s <;> cases (decide (0 ≤ intV r) && decide (intV r < ns.length)) <;> cases (decide (0 ≤ intV s) && decide (intV s < ns.getD (intV r).toNat 0)) <;> intro hp <;> first | rfl | cases hp
theorem ok_check_length {f : Addr} {fd : FuncData} (F : Fun K "check_length" "check_length" s_check_length f fd) (g : mg "check_length" = some (.ref f)) (B : Bl mg)
    {Y : Nat → Addr} {YH : Addr} (Z : Errs K mg Y YH)
    {f_is_whole : Addr} {fd_is_whole : FuncData} (D_is_whole : Dfn P w K mg base CX0 1 "is_whole" f_is_whole fd_is_whole ["thing"] (sp5_is_whole )) :
    Dfn P w K mg base (L2.CX P w) 2 "check_length" f fd ["length"] (sp5_check_length Y) := by
  refine ⟨F.okX sc_check_length (fun vs H Q E h => ?_) (fun cdv A outer s H vs Q E hr h => ?_), F.kp, F.binds (ps := ["length"]) fun _ _ _ _ _ _ us hl => match us, hl with | [_], _ => rfl, g⟩
  · obtain ⟨v, rfl, hk, qt, qf⟩ := h
    rfl
  · obtain ⟨v, rfl, hk, qt, qf⟩ := h
    refine ⟨_, (pss_one (ps_if (PW.pt (pw_or (pt_not (pt_val (Rh.pe_dfn D_is_whole hr (by decide) (by rfl) pass0 (pa_cons (pv 0) pa_nil)))) (pw_or1 (pt_cmpR op_lt (pv 0) pe_int (nomark _)))))
        (pss_one (Rh.ps_refuse Z.e1 rfl (takes_of rfl rfl rfl rfl) (by rfl))) pss_nil)), ?_⟩
    show (_ : TS) _ [some (v)] H
    cases hw : wholeV v with
    | false =>
      have hg : SpV sp5_is_whole [v] H (.bl false) := by rw [← hw]; exact go_w hk
      exact s_if (b := true) (et_is (et_or (a := !false) (b := false) (et_not (et_B (ev_call (ea_one (ev_var rfl)) hg))) fun h => nomatch h) rfl) (fun _ H1 e1 => s_raise (qf (len_whole hw) H1 e1)) (fun h => nomatch h)
    | true =>
      obtain ⟨n, rfl⟩ := whole_int hw
      refine s_if (et_or (et_not (et_B (ev_call (ea_one (ev_var rfl)) (go_w hk)))) fun _ => et_test (ev_lt (ev_var rfl) ev_c)) (fun hb H1 e1 => s_raise (qf ?_ H1 e1)) (fun hb H1 e1 => qt ?_ H1 e1)
      · have hb : decide (n < 1) = true := hb
        have hb := of_decide_eq_true hb
        exact decide_eq_false (by omega)
      · have hb : decide (n < 1) = false := hb
        have hb := of_decide_eq_false hb
        exact decide_eq_true (by omega)
theorem ok_rims_of {f : Addr} {fd : FuncData} (F : Fun K "rims_of" "rims_of" s_rims_of f fd) (g : mg "rims_of" = some (.ref f)) (B : Bl mg)
    {Y : Nat → Addr} {YH : Addr} (Z : Errs K mg Y YH)
    {f_marks_of : Addr} {fd_marks_of : FuncData} (D_marks_of : Dfn P w K mg base CX0 1 "marks_of" f_marks_of fd_marks_of ["heap"] (sp_marks_of K)) :
    Dfn P w K mg base CX0 2 "rims_of" f fd ["heap", "length"] (sp_rims_of K) := by
  refine ⟨F.ok sc_rims_of (fun vs H Q E h => ?_) (fun cdv A outer s H vs Q E hr h => ?_), F.kp, F.binds (ps := ["heap", "length"]) fun _ _ _ _ _ _ us hl => match us, hl with | [_, _], _ => rfl, g⟩
  · obtain ⟨a, ns, i, rfl, hS, hp, q⟩ := h
    rfl
  · obtain ⟨a, ns, i, rfl, hS, hp, q⟩ := h
    refine ⟨_, (pss_cons (ps_set (i := 2) sc_rims_of.nd rfl (Or.inl rfl) (Rh.pe_dfn D_marks_of hr (by decide) (by rfl) pass0 (pa_cons (pv 0) pa_nil)))
      (pss_cons (ps_set (i := 3) sc_rims_of.nd rfl (Or.inr rfl) pe_dnewK)
      (pss_cons (ps_for PassesOwn.never rfl (pi_list (pv 2)) (pg_name (i := 4) sc_rims_of.nd rfl (Or.inl rfl))
        (pss_one (ps_dput (hu_of hr) (pv 3) (pv 4) pe_bl rfl)))
      (pss_one (ps_ret (pe_lc (own := [("row", 5), ("mark", 4)]) (g := (Rh.g2 K 5 4))  (by rfl) sc_rims_of.nd (pi_enum (by rfl) B.enumerate (pa_cons (pv 2) pa_nil)) (blkOk_by (N := ["heap", "length", "told", "known", "mark", "row"]) (sc := defScope s_rims_of) (by decide +kernel)) (fun _ _ _ _ _ => (pg_tup rfl (pgs_cons (pg_name (i := 5) sc_rims_of.nd rfl (Or.inl rfl)) (pgs_cons (pg_name (i := 4) sc_rims_of.nd rfl (Or.inl rfl)) pgs_nil)))) (fun _ _ _ _ _ => (pts_one (PW.pt (pw_and (pt_cmpR op_ge (pv 4) (pv 1) (nomark _)) (pw_and1 (pt_cmp (pc_dnotin (hu_of hr) (pe_op op_sub (pv 4) (pv 1)) (pv 3)))))))) (fun _ _ _ _ _ => (pv 5)))))))), ?_⟩
    show (_ : TS) _ [some (.ref a), some (.int i), none, none, none, none] H
    have hl : Len ns := hp
    have hz : (marksOf ns).length = ns.length := marksOf_len ns
    refine q_asgL (el_call (ea_cons (ev_var rfl) ea_nil) (go_L hS hl rfl)) fun p H1 hn e1 h1 => ?_
    refine q_dnew fun d H2 hd e2 h2 => ?_
    refine q_forP (ev_var rfl) (sq_map (e2 _ _ h1)) (fun pre σ' H' => ∃ y kvs, σ' = [some (.ref a), some (.int i), some (.ref p), some (.ref d), y, none] ∧ Ex H1 H' ∧ H' d = some (.dK kvs) ∧ DSeen kvs pre) (fun H3 e3 => ⟨none, [], rfl, e2.trans e3, e3 _ _ h2, DSeen.nil⟩) (fun pre σ' H' w => ?_) (fun pre n post σ' H' hn w => ?_) fun σ' H' w => ?_
    · obtain ⟨_, _, _, e, _⟩ := w
      exact sq_map (e _ _ h1)
    · obtain ⟨y, kvs, rfl, e, hk, ds⟩ := w
      refine s_dput hk ev_c (ev_var rfl) (ev_var rfl) ?_ fun H4 e4 => ?_
      · have h5 := ds.2
        have h6 : pre.length ≤ (marksOf ns).length := by rw [hn]; simp
        omega
      · exact ⟨some (.int n), _, rfl, (e.trans e4).mut hd, upd_same, ds.put⟩
    · obtain ⟨y, kvs, rfl, e, hk, ds⟩ := w
      refine s_retL (xs := (rimsH ns i).map V.int) ?_ fun p3 H3 hn3 e3 h3 => RetL.go q (e1.trans e) hn3 e3 h3
      unfold rimsH
      rw [← rims_comp]
      refine el_cE V.int _ (ev_var rfl) (sq_map (e _ _ h1)) (by omega) (fun _ _ => rfl) (fun n k hk2 => et_is (et_and (et_test (ev_ge (ev_var rfl) (ev_var rfl))) fun _ => et_B (ev_dnin hk (ev_sub (ev_var rfl) (ev_var rfl)) (ev_var rfl))) ?_) fun n k hk2 y hy => ?_
      · rw [ds.1]
        show _ = Option.isSome (if (decide (i ≤ n) && !decide (n - i ∈ marksOf ns)) = true then some (((k : Nat) : Int)) else none)
        cases (decide (i ≤ n) && !decide (n - i ∈ marksOf ns)) <;> rfl
      · have hy : (if (decide (i ≤ n) && !decide (n - i ∈ marksOf ns)) = true then some (((k : Nat) : Int)) else none) = some y := hy
        split at hy
        · cases hy
          exact ev_var rfl
        · cases hy
theorem ok_rims {f : Addr} {fd : FuncData} (F : Fun K "rims" "rims" s_rims f fd) (g : mg "rims" = some (.ref f)) (B : Bl mg)
    {Y : Nat → Addr} {YH : Addr} (Z : Errs K mg Y YH)
    {f_check_heap : Addr} {fd_check_heap : FuncData} (D_check_heap : Dfn P w K mg base (L2.CX P w) 3 "check_heap" f_check_heap fd_check_heap ["heap"] (sp5_check_heap K Y))
    {f_check_length : Addr} {fd_check_length : FuncData} (D_check_length : Dfn P w K mg base (L2.CX P w) 2 "check_length" f_check_length fd_check_length ["length"] (sp5_check_length Y))
    {f_rims_of : Addr} {fd_rims_of : FuncData} (D_rims_of : Dfn P w K mg base CX0 2 "rims_of" f_rims_of fd_rims_of ["heap", "length"] (sp_rims_of K)) :
    Dfn P w K mg base (L2.CX P w) 4 "rims" f fd ["heap", "length"] (sp5_two K Y) := by
  refine ⟨F.okX sc_rims (fun vs H Q E h => ?_) (fun cdv A outer s H vs Q E hr h => ?_), F.kp, F.binds (ps := ["heap", "length"]) fun _ _ _ _ _ _ us hl => match us, hl with | [_, _], _ => rfl, g⟩
  · obtain ⟨h, l, rfl, hc⟩ := h
    rfl
  · obtain ⟨h, l, rfl, hc⟩ := h
    refine ⟨_, (pss_cons (ps_expr (Rh.pe_dfn D_check_heap hr (by decide) (by rfl) (Rh.passE rfl rfl rfl rfl) (pa_cons (pv 0) pa_nil)))
      (pss_cons (ps_expr (Rh.pe_dfn D_check_length hr (by decide) (by rfl) (Rh.passE rfl rfl rfl rfl) (pa_cons (pv 1) pa_nil)))
      (pss_one (ps_ret (Rh.pe_dfn D_rims_of hr (by decide) (by rfl) pass0 (pa_cons (pv 0) (pa_cons (pv 1) pa_nil))))))), ?_⟩
    show (_ : TS) _ [some (h), some (l)] H
    rcases hc with ⟨hj, hx⟩ | ⟨ns, g, k, hb, hx⟩
    · exact q_dropX (ex_call (ea_one (ev_var rfl)) (sx_ch hj) hx)
    · refine q_chk (ev_call (ea_one (ev_var rfl)) (go_ch g.hj)) fun H1 e1 => ?_
      exact q_dropX (ex_call (ea_one (ev_var rfl)) (sx_cl (k.ex e1) hb) (hx.ex e1))
theorem ok_heap_of {f : Addr} {fd : FuncData} (F : Fun K "heap_of" "heap_of" s_heap_of f fd) (g : mg "heap_of" = some (.ref f)) (B : Bl mg)
    {Y : Nat → Addr} {YH : Addr} (Z : Errs K mg Y YH) :
    Dfn P w K mg base CX0 1 "heap_of" f fd ["marks"] (sp_heap_of K) := by
  refine ⟨F.ok sc_heap_of (fun vs H Q E h => ?_) (fun cdv A outer s H vs Q E hr h => ?_), F.kp, F.binds (ps := ["marks"]) fun _ _ _ _ _ _ us hl => match us, hl with | [_], _ => rfl, g⟩
  · obtain ⟨a, ns, rfl, hS, hp, q⟩ := h
    rfl
  · obtain ⟨a, ns, rfl, hS, hp, q⟩ := h
    refine ⟨_, (pss_cons (ps_set (i := 1) sc_heap_of.nd rfl (Or.inr rfl) (pe_callBK (Rh.k_sorted (b := true) K rfl) (by rfl) B.sorted boot_sorted (pa_cons (pv 0) pa_nil) (pk_cons pe_bl pk_nil)))
      (pss_cons (ps_setLc (i := 2) (own := [("at", 3), ("mark", 4)]) (g := (Rh.g2 K 3 4)) (tt := tYes)  rfl sc_heap_of.nd rfl rfl (sw_true rfl rfl rfl (by decide +kernel)) (pi_enum (by rfl) B.enumerate (pa_cons (pv 1) pa_nil)) (blkOk_by (N := ["marks", "falling", "rows", "at", "mark", "number"]) (sc := defScope s_heap_of) (by decide +kernel)) (fun _ _ _ _ _ => (pg_tup rfl (pgs_cons (pg_name (i := 3) sc_heap_of.nd rfl (Or.inl rfl)) (pgs_cons (pg_name (i := 4) sc_heap_of.nd rfl (Or.inl rfl)) pgs_nil)))) (fun _ _ _ _ _ => pts_nil) (fun _ _ _ _ _ => (pe_op op_add (pe_op op_add (pe_op op_sub (pv 4) (pe_callB (Rh.k_len K rfl) (by rfl) B.len PySem.boot_len (pa_cons (pv 1) pa_nil))) pe_int) (pv 3))))
      (pss_one (ps_ret (pe_lc (own := [("number", 5)]) (g := (gName 5))  (by rfl) sc_heap_of.nd (pi_list (pv 2)) (blkOk_by (N := ["marks", "falling", "rows", "at", "mark", "number"]) (sc := defScope s_heap_of) (by decide +kernel)) (fun _ _ _ _ _ => (pg_name (i := 5) sc_heap_of.nd rfl (Or.inl rfl))) (fun _ _ _ _ _ => (pts_one (pt_cmpR op_gt (pv 5) pe_int (nomark _)))) (fun _ _ _ _ _ => (pv 5))))))), ?_⟩
    show (_ : TS) _ [some (.ref a), none, none, none, none, none] H
    have hl : Len ns := hp
    have hz : (sortD ns).length = ns.length := (sortD_perm ns).length_eq
    refine q_asgL (el_sortedR (ev_var rfl) hS) fun p H1 hn e1 h1 => ?_
    have s1 := sq_map (K := K) h1
    refine q_asgL (xs := (rowsOf (sortD ns)).map V.int) ?_ fun p2 H2 hn2 e2 h2 => ?_
    · rw [← rows_comp]
      refine el_cEm V.int _ (ev_var rfl) s1 (by omega) (fun _ _ => rfl) fun n k hk => ?_
      walk_at "ev"
    have s2 := sq_map (K := K) h2
    refine s_retL (xs := (heapOf ns).map V.int) ?_ fun p3 H3 hn3 e3 h3 => RetL.go q (e1.trans e2) hn3 e3 h3
    unfold heapOf
    rw [← pos_comp]
    refine el_cL V.int _ (ev_var rfl) s2 (by rw [rowsOf_len]; omega) (fun _ => rfl) (fun n hn => et_is (et_test (ev_gt (ev_var rfl) ev_c)) ?_) fun n hn y hy => ?_
    · by_cases c : 0 < n
      · rw [if_pos c, decide_eq_true c]; rfl
      · rw [if_neg c, decide_eq_false c]; rfl
    · split at hy
      · cases hy
        exact ev_var rfl
      · cases hy
theorem ok_behind {f : Addr} {fd : FuncData} (F : Fun K "behind" "behind" s_behind f fd) (g : mg "behind" = some (.ref f)) (B : Bl mg)
    {Y : Nat → Addr} {YH : Addr} (Z : Errs K mg Y YH)
    {f_marks_of : Addr} {fd_marks_of : FuncData} (D_marks_of : Dfn P w K mg base CX0 1 "marks_of" f_marks_of fd_marks_of ["heap"] (sp_marks_of K))
    {f_heap_of : Addr} {fd_heap_of : FuncData} (D_heap_of : Dfn P w K mg base CX0 1 "heap_of" f_heap_of fd_heap_of ["marks"] (sp_heap_of K)) :
    Dfn P w K mg base CX0 2 "behind" f fd ["heap", "length", "row"] (sp_behind K) := by
  refine ⟨F.ok sc_behind (fun vs H Q E h => ?_) (fun cdv A outer s H vs Q E hr h => ?_), F.kp, F.binds (ps := ["heap", "length", "row"]) fun _ _ _ _ _ _ us hl => match us, hl with | [_, _, _], _ => rfl, g⟩
  · obtain ⟨a, ns, i, j, rfl, hS, hp, q⟩ := h
    rfl
  · obtain ⟨a, ns, i, j, rfl, hS, hp, q⟩ := h
    refine ⟨_, (pss_cons (ps_set (i := 3) sc_behind.nd rfl (Or.inl rfl) (Rh.pe_dfn D_marks_of hr (by decide) (by rfl) pass0 (pa_cons (pv 0) pa_nil)))
      (pss_cons (ps_augS (pv 3) (pv 2) Rh.get_list (pv 1) ip_sub set_list)
      (pss_one (ps_ret (Rh.pe_dfn D_heap_of hr (by decide) (by rfl) pass0 (pa_cons (pv 3) pa_nil)))))), ?_⟩
    show (_ : TS) _ [some (.ref a), some (.int i), some (.int j), none] H
    obtain ⟨hl, k, rfl, hk⟩ := hp
    have hz : (marksOf ns).length = ns.length := marksOf_len ns
    have hm : (marksOf ns)[k]? = some ((marksOf ns).getD k 0) := by rw [List.getD_eq_getElem?_getD, List.getElem?_eq_getElem (by omega)]; rfl
    refine q_asgL (el_call (ea_cons (ev_var rfl) ea_nil) (go_L hS hl rfl)) fun p H1 hn e1 h1 => ?_
    refine q_subI h1 (ev_var rfl) (ev_var rfl) (ev_var rfl) hm fun H2 e2 => ?_
    have h3 : (upd H2 p (.lst (((marksOf ns).set k ((marksOf ns).getD k 0 - i)).map V.int))) p = some (.lst ((dropAt (marksOf ns) k i).map V.int)) := upd_same
    have e3 : Ex H (upd H2 p (.lst (((marksOf ns).set k ((marksOf ns).getD k 0 - i)).map V.int))) := (e1.trans e2).mut hn
    exact s_retL (el_call (ea_cons (ev_var rfl) ea_nil) (go_L (sq_map h3) (by show (dropAt (marksOf ns) k i).length ≤ 30000; have : Len ns := hl; rw [dropAt_len]; omega) rfl)) fun p4 H4 hn4 e4 h4 => RetL.go q e3 hn4 e4 h4
theorem ok_taken {f : Addr} {fd : FuncData} (F : Fun K "taken" "taken" s_taken f fd) (g : mg "taken" = some (.ref f)) (B : Bl mg)
    {Y : Nat → Addr} {YH : Addr} (Z : Errs K mg Y YH)
    {f_check_heap : Addr} {fd_check_heap : FuncData} (D_check_heap : Dfn P w K mg base (L2.CX P w) 3 "check_heap" f_check_heap fd_check_heap ["heap"] (sp5_check_heap K Y))
    {f_check_length : Addr} {fd_check_length : FuncData} (D_check_length : Dfn P w K mg base (L2.CX P w) 2 "check_length" f_check_length fd_check_length ["length"] (sp5_check_length Y))
    {f_is_whole : Addr} {fd_is_whole : FuncData} (D_is_whole : Dfn P w K mg base CX0 1 "is_whole" f_is_whole fd_is_whole ["thing"] (sp5_is_whole ))
    {f_rims_of : Addr} {fd_rims_of : FuncData} (D_rims_of : Dfn P w K mg base CX0 2 "rims_of" f_rims_of fd_rims_of ["heap", "length"] (sp_rims_of K))
    {f_behind : Addr} {fd_behind : FuncData} (D_behind : Dfn P w K mg base CX0 2 "behind" f_behind fd_behind ["heap", "length", "row"] (sp_behind K)) :
    Dfn P w K mg base (L2.CX P w) 4 "taken" f fd ["heap", "length", "row"] (sp5_taken K Y) := by
  refine ⟨F.okX sc_taken (fun vs H Q E h => ?_) (fun cdv A outer s H vs Q E hr h => ?_), F.kp, F.binds (ps := ["heap", "length", "row"]) fun _ _ _ _ _ _ us hl => match us, hl with | [_, _, _], _ => rfl, g⟩
  · obtain ⟨h, l, r, rfl, hc⟩ := h
    rfl
  · obtain ⟨h, l, r, rfl, hc⟩ := h
    refine ⟨_, (pss_cons (ps_expr (Rh.pe_dfn D_check_heap hr (by decide) (by rfl) (Rh.passE rfl rfl rfl rfl) (pa_cons (pv 0) pa_nil)))
      (pss_cons (ps_expr (Rh.pe_dfn D_check_length hr (by decide) (by rfl) (Rh.passE rfl rfl rfl rfl) (pa_cons (pv 1) pa_nil)))
      (pss_cons (ps_if (PW.pt (pw_or (pt_not (pt_val (Rh.pe_dfn D_is_whole hr (by decide) (by rfl) pass0 (pa_cons (pv 2) pa_nil)))) (pw_or1 (pt_cmpR (Rh.k_nin K rfl) (pv 2) (Rh.pe_dfn D_rims_of hr (by decide) (by rfl) pass0 (pa_cons (pv 0) (pa_cons (pv 1) pa_nil))) (by rfl)))))
        (pss_one (Rh.ps_refuse Z.e2 rfl (takes_of rfl rfl rfl rfl) (by rfl))) pss_nil)
      (pss_one (ps_ret (Rh.pe_dfn D_behind hr (by decide) (by rfl) pass0 (pa_cons (pv 0) (pa_cons (pv 1) (pa_cons (pv 2) pa_nil))))))))), ?_⟩
    show (_ : TS) _ [some (h), some (l), some (r)] H
    rcases hc with ⟨hj, hx⟩ | ⟨ns, g, k, hb, hx⟩ | ⟨ns, i, g, rfl, hi, k, hn, hx⟩
    · exact q_dropX (ex_call (ea_one (ev_var rfl)) (sx_ch hj) hx)
    · refine q_chk (ev_call (ea_one (ev_var rfl)) (go_ch g.hj)) fun H1 e1 => ?_
      exact q_dropX (ex_call (ea_one (ev_var rfl)) (sx_cl (k.ex e1) hb) (hx.ex e1))
    · refine q_chk (ev_call (ea_one (ev_var rfl)) (go_ch g.hj)) fun H1 e1 => ?_
      refine q_chk (ev_call (ea_one (ev_var rfl)) (go_cl (.inl (.int i)) (decide_eq_true hi))) fun H2 e2 => ?_
      have e02 := e1.trans e2
      obtain ⟨a, rfl, hS, hH, hl⟩ := g
      refine q_when (b := true) (et_is (et_or (b := true) (et_not (et_B (ev_call (ea_one (ev_var rfl)) (go_w (k.ex e02))))) fun hw => ?_) (by cases wholeV r <;> rfl)) (fun _ H3 e3 => s_raise (hx H3 (e02.trans e3))) (fun h => nomatch h)
      have hw : wholeV r = true := by simpa using hw
      obtain ⟨n, rfl⟩ := whole_int hw
      exact et_is (et_test (ev_ninI (ev_var rfl) (el_call (ea_two (ev_var rfl) (ev_var rfl)) (go_Li (ex_l e02 hS) hl rfl)))) (by rw [decide_eq_false (hn n rfl)]; rfl)
theorem ok_counts_of {f : Addr} {fd : FuncData} (F : Fun K "counts_of" "counts_of" s_counts_of f fd) (g : mg "counts_of" = some (.ref f)) (B : Bl mg)
    {Y : Nat → Addr} {YH : Addr} (Z : Errs K mg Y YH) :
    Dfn P w K mg base CX0 1 "counts_of" f fd ["told", "length"] (sp_counts_of K) := by
  refine ⟨F.ok sc_counts_of (fun vs H Q E h => ?_) (fun cdv A outer s H vs Q E hr h => ?_), F.kp, F.binds (ps := ["told", "length"]) fun _ _ _ _ _ _ us hl => match us, hl with | [_, _], _ => rfl, g⟩
  · obtain ⟨a, ns, i, rfl, hS, hp, q⟩ := h
    rfl
  · obtain ⟨a, ns, i, rfl, hS, hp, q⟩ := h
    refine ⟨_, (pss_cons (ps_set (i := 2) sc_counts_of.nd rfl (Or.inl rfl) pe_dnewK)
      (pss_cons (ps_for PassesOwn.never rfl (pi_list (pv 0)) (pg_name (i := 3) sc_counts_of.nd rfl (Or.inl rfl))
        (pss_one (ps_dput (hu_of hr) (pv 2) (pe_op op_mod (pv 3) (pv 1)) (pe_op op_add (pe_dget2 (hu_of hr) (pv 2) (pe_op op_mod (pv 3) (pv 1)) pe_int ⟨rfl, rfl, rfl, rfl⟩) pe_int) rfl)))
      (pss_one (ps_ret (pv 2))))), ?_⟩
    show (_ : TS) _ [some (.ref a), some (.int i), none, none] H
    obtain ⟨hl, hi⟩ := hp
    refine q_dnew fun d H2 hd e2 h2 => ?_
    refine q_forP (ev_var rfl) (ex_l e2 hS) (fun pre σ' H' => ∃ y kvs, σ' = [some (.ref a), some (.int i), some (.ref d), y] ∧ Ex H H' ∧ H' d = some (.dK kvs) ∧ DTal kvs pre i) (fun H3 e3 => ⟨none, [], rfl, e2.trans e3, e3 _ _ h2, DTal.nil i⟩) (fun pre σ' H' w => ?_) (fun pre n post σ' H' hn w => ?_) fun σ' H' w => ?_
    · obtain ⟨_, _, _, e, _⟩ := w
      exact ex_l e hS
    · obtain ⟨y, kvs, rfl, e, hk, dt⟩ := w
      refine s_dput hk (ev_add (ev_is (ev_dget hk (ev_var rfl) (ev_mod (ev_var rfl) (ev_var rfl) hi) ev_c) (dt.get _)) ev_c) (ev_var rfl) (ev_mod (ev_var rfl) (ev_var rfl) hi) ?_ fun H4 e4 => ?_
      · have h5 := dt.len
        have h6 : pre.length ≤ ns.length := by rw [hn]; simp
        have : Len ns := hl
        omega
      · exact ⟨some (.int n), _, rfl, (e.trans e4).mut hd, upd_same, dt.put⟩
    · obtain ⟨y, kvs, rfl, e, hk, dt⟩ := w
      exact s_ret (ev_var rfl) fun H5 e5 => q d kvs H5 hd (e.trans e5) (e5 _ _ hk) dt
theorem ok_core {f : Addr} {fd : FuncData} (F : Fun K "core" "core" s_core f fd) (g : mg "core" = some (.ref f)) (B : Bl mg)
    {Y : Nat → Addr} {YH : Addr} (Z : Errs K mg Y YH)
    {f_check_heap : Addr} {fd_check_heap : FuncData} (D_check_heap : Dfn P w K mg base (L2.CX P w) 3 "check_heap" f_check_heap fd_check_heap ["heap"] (sp5_check_heap K Y))
    {f_check_length : Addr} {fd_check_length : FuncData} (D_check_length : Dfn P w K mg base (L2.CX P w) 2 "check_length" f_check_length fd_check_length ["length"] (sp5_check_length Y))
    {f_counts_of : Addr} {fd_counts_of : FuncData} (D_counts_of : Dfn P w K mg base CX0 1 "counts_of" f_counts_of fd_counts_of ["told", "length"] (sp_counts_of K))
    {f_marks_of : Addr} {fd_marks_of : FuncData} (D_marks_of : Dfn P w K mg base CX0 1 "marks_of" f_marks_of fd_marks_of ["heap"] (sp_marks_of K))
    {f_heap_of : Addr} {fd_heap_of : FuncData} (D_heap_of : Dfn P w K mg base CX0 1 "heap_of" f_heap_of fd_heap_of ["marks"] (sp_heap_of K)) :
    Dfn P w K mg base (L2.CX P w) 4 "core" f fd ["heap", "length"] (sp5_two K Y) := by
  refine ⟨F.okX sc_core (fun vs H Q E h => ?_) (fun cdv A outer s H vs Q E hr h => ?_), F.kp, F.binds (ps := ["heap", "length"]) fun _ _ _ _ _ _ us hl => match us, hl with | [_, _], _ => rfl, g⟩
  · obtain ⟨h, l, rfl, hc⟩ := h
    rfl
  · obtain ⟨h, l, rfl, hc⟩ := h
    refine ⟨_, (pss_cons (ps_expr (Rh.pe_dfn D_check_heap hr (by decide) (by rfl) (Rh.passE rfl rfl rfl rfl) (pa_cons (pv 0) pa_nil)))
      (pss_cons (ps_expr (Rh.pe_dfn D_check_length hr (by decide) (by rfl) (Rh.passE rfl rfl rfl rfl) (pa_cons (pv 1) pa_nil)))
      (pss_cons (ps_set (i := 2) sc_core.nd rfl (Or.inl rfl) (pe_lst pa_nil))
      (pss_cons (ps_for (passes_of rfl) rfl (pi_items (Rh.pe_frz (Rh.pe_dfn D_counts_of hr (by decide) (by rfl) pass0 (pa_cons (Rh.pe_dfn D_marks_of hr (by decide) (by rfl) pass0 (pa_cons (pv 0) pa_nil)) (pa_cons (pv 1) pa_nil))))) (pg_tup rfl (pgs_cons (pg_name (i := 3) sc_core.nd rfl (Or.inr rfl)) (pgs_cons (pg_name (i := 4) sc_core.nd rfl (Or.inl rfl)) pgs_nil)))
        (pss_one (ps_expr (pe_bm PySem.F.plainAttrs_list PySem.F.slot_list_extend PySem.F.type_list_extend mt_extend (pv 2) (pa_cons (pe_lc (own := [("k", 5)]) (g := (gName 5)) (tt := tYes)  (by rfl) sc_core.nd (pi_range1 (by rfl) B.range (pa_cons (pv 4) pa_nil)) (blkOk_by (N := ["heap", "length", "found", "rest", "count", "k"]) (sc := defScope s_core) (by decide +kernel)) (fun _ _ _ _ _ => (pg_name (i := 5) sc_core.nd rfl (Or.inl rfl))) (fun _ _ _ _ _ => pts_nil) (fun _ _ _ _ _ => (pe_op op_add (pv 3) (pe_op Rh.op_mulO (pv 1) (pv 5))))) pa_nil)))))
      (pss_one (ps_ret (Rh.pe_dfn D_heap_of hr (by decide) (by rfl) pass0 (pa_cons (pv 2) pa_nil)))))))), ?_⟩
    show (_ : TS) _ [some (h), some (l), none, none, none, none] H
    rcases hc with ⟨hj, hx⟩ | ⟨ns, g, k, hb, hx⟩
    · exact q_dropX (ex_call (ea_one (ev_var rfl)) (sx_ch hj) hx)
    · refine q_chk (ev_call (ea_one (ev_var rfl)) (go_ch g.hj)) fun H1 e1 => ?_
      exact q_dropX (ex_call (ea_one (ev_var rfl)) (sx_cl (k.ex e1) hb) (hx.ex e1))
theorem ok_rims_in {f : Addr} {fd : FuncData} (F : Fun K "rims_in" "rims_in" s_rims_in f fd) (g : mg "rims_in" = some (.ref f)) (B : Bl mg)
    {Y : Nat → Addr} {YH : Addr} (Z : Errs K mg Y YH)
    {f_check_heap : Addr} {fd_check_heap : FuncData} (D_check_heap : Dfn P w K mg base (L2.CX P w) 3 "check_heap" f_check_heap fd_check_heap ["heap"] (sp5_check_heap K Y))
    {f_check_length : Addr} {fd_check_length : FuncData} (D_check_length : Dfn P w K mg base (L2.CX P w) 2 "check_length" f_check_length fd_check_length ["length"] (sp5_check_length Y))
    {f_marks_of : Addr} {fd_marks_of : FuncData} (D_marks_of : Dfn P w K mg base CX0 1 "marks_of" f_marks_of fd_marks_of ["heap"] (sp_marks_of K))
    {f_counts_of : Addr} {fd_counts_of : FuncData} (D_counts_of : Dfn P w K mg base CX0 1 "counts_of" f_counts_of fd_counts_of ["told", "length"] (sp_counts_of K)) :
    Dfn P w K mg base (L2.CX P w) 4 "rims_in" f fd ["heap", "length"] (sp5_rims_in K Y) := by
  refine ⟨F.okX sc_rims_in (fun vs H Q E h => ?_) (fun cdv A outer s H vs Q E hr h => ?_), F.kp, F.binds (ps := ["heap", "length"]) fun _ _ _ _ _ _ us hl => match us, hl with | [_, _], _ => rfl, g⟩
  · obtain ⟨h, l, rfl, hc⟩ := h
    rfl
  · obtain ⟨h, l, rfl, hc⟩ := h
    refine ⟨_, (pss_cons (ps_expr (Rh.pe_dfn D_check_heap hr (by decide) (by rfl) (Rh.passE rfl rfl rfl rfl) (pa_cons (pv 0) pa_nil)))
      (pss_cons (ps_expr (Rh.pe_dfn D_check_length hr (by decide) (by rfl) (Rh.passE rfl rfl rfl rfl) (pa_cons (pv 1) pa_nil)))
      (pss_cons (ps_set (i := 2) sc_rims_in.nd rfl (Or.inl rfl) (Rh.pe_dfn D_marks_of hr (by decide) (by rfl) pass0 (pa_cons (pv 0) pa_nil)))
      (pss_cons (ps_set (i := 3) sc_rims_in.nd rfl (Or.inl rfl) (pe_callB (Rh.k_sum K rfl (by rfl)) (by rfl) B.sum boot_sum (pa_cons (pe_lc (own := [("count", 4)]) (g := (gName 4)) (tt := tYes)  (by rfl) sc_rims_in.nd (pi_values (Rh.pe_frz (Rh.pe_dfn D_counts_of hr (by decide) (by rfl) pass0 (pa_cons (pv 2) (pa_cons (pv 1) pa_nil))))) (blkOk_by (N := ["heap", "length", "told", "lows", "count", "mark"]) (sc := defScope s_rims_in) (by decide +kernel)) (fun _ _ _ _ _ => (pg_name (i := 4) sc_rims_in.nd rfl (Or.inl rfl))) (fun _ _ _ _ _ => pts_nil) (fun _ _ _ _ _ => (pe_op op_fdivW (pe_op Rh.op_mulO (pv 4) (pe_op op_sub (pv 4) pe_int)) pe_int))) pa_nil)))
      (pss_one (ps_ret (pe_op op_sub (pe_callB (Rh.k_sum K rfl (by rfl)) (by rfl) B.sum boot_sum (pa_cons (pe_lc (own := [("mark", 5)]) (g := (gName 5)) (tt := tYes)  (by rfl) sc_rims_in.nd (pi_list (pv 2)) (blkOk_by (N := ["heap", "length", "told", "lows", "count", "mark"]) (sc := defScope s_rims_in) (by decide +kernel)) (fun _ _ _ _ _ => (pg_name (i := 5) sc_rims_in.nd rfl (Or.inl rfl))) (fun _ _ _ _ _ => pts_nil) (fun _ _ _ _ _ => (pe_op op_fdivW (pv 5) (pv 1)))) pa_nil)) (pv 3)))))))), ?_⟩
    show (_ : TS) _ [some (h), some (l), none, none, none, none] H
    rcases hc with ⟨hj, hx⟩ | ⟨ns, g, k, hb, hx⟩ | ⟨ns, i, g, rfl, hi, hw, q⟩
    · exact q_dropX (ex_call (ea_one (ev_var rfl)) (sx_ch hj) hx)
    · refine q_chk (ev_call (ea_one (ev_var rfl)) (go_ch g.hj)) fun H1 e1 => ?_
      exact q_dropX (ex_call (ea_one (ev_var rfl)) (sx_cl (k.ex e1) hb) (hx.ex e1))
    · have hL : 0 < i := by omega
      refine q_chk (ev_call (ea_one (ev_var rfl)) (go_ch g.hj)) fun H1 e1 => ?_
      refine q_chk (ev_call (ea_one (ev_var rfl)) (go_cl (.inl (.int i)) (decide_eq_true hi))) fun H2 e2 => ?_
      obtain ⟨a, rfl, hS, hH, hl⟩ := g
      have hz : (marksOf ns).length = ns.length := marksOf_len ns
      refine q_asgL (el_call (ea_cons (ev_var rfl) ea_nil) (go_L (ex_l (e1.trans e2) hS) hl rfl)) fun p H3 hn e3 h3 => ?_
      have s3 := sq_map (K := K) h3
      refine q_asg (ev_sumVals (K := K) (M := marksOf ns) (L := i) (X := ((marksOf ns).map (· / i)).sum - rimsIn ns i) (ed_counts0 (ev_var rfl) s3 (ev_var rfl) (by omega) hL) (by omega) (fun _ => rfl) (fun c hc => ?_) fun T ht => ?_) fun H4 e4 => ?_
      · refine ev_is (ev_div (ev_mulW (ev_var rfl) (ev_sub (ev_var rfl) ev_c) (mul_small (by omega))) ev_c ⟨by decide, by decide⟩) ?_
        rw [tri_eq]
      · have := many_tally hL ht
        show lowSum T = _ - manyOf (marksOf ns) i
        omega
      · have s4 := ex_l e4 s3
        refine s_ret (ev_is (ev_sub (ev_sumN (el_cLm V.int (fun m => m / i) (ev_var rfl) s4 (by omega) (fun _ => rfl) fun n hn => ev_div (ev_var rfl) (ev_var rfl) (div_ok hL hw))) (ev_var rfl)) ?_) fun H5 e5 => RetV.go q ((((e1.trans e2).trans e3).trans e4).trans e5)
        congr 1
        omega
theorem ok_check_few {f : Addr} {fd : FuncData} (F : Fun K "check_few" "check_few" s_check_few f fd) (g : mg "check_few" = some (.ref f)) (B : Bl mg)
    {Y : Nat → Addr} {YH : Addr} (Z : Errs K mg Y YH)
    {f_check_length : Addr} {fd_check_length : FuncData} (D_check_length : Dfn P w K mg base (L2.CX P w) 2 "check_length" f_check_length fd_check_length ["length"] (sp5_check_length Y))
    {t_MOST_cores : Tok} (c_MOST_cores : mg "MOST_cores" = some (.int 100 t_MOST_cores)) :
    Dfn P w K mg base (L2.CX P w) 3 "check_few" f fd ["length"] (sp5_check_few Y) := by
  refine ⟨F.okX sc_check_few (fun vs H Q E h => ?_) (fun cdv A outer s H vs Q E hr h => ?_), F.kp, F.binds (ps := ["length"]) fun _ _ _ _ _ _ us hl => match us, hl with | [_], _ => rfl, g⟩
  · obtain ⟨v, rfl, hk, qt, qf⟩ := h
    rfl
  · obtain ⟨v, rfl, hk, qt, qf⟩ := h
    refine ⟨_, (pss_cons (ps_expr (Rh.pe_dfn D_check_length hr (by decide) (by rfl) (Rh.passE rfl rfl rfl rfl) (pa_cons (pv 0) pa_nil)))
      (pss_one (ps_if (pt_cmpR op_gt (pv 0) (pe_glob (v := .int 100) (by rfl) c_MOST_cores ⟨_, rfl⟩) (nomark _))
        (pss_one (Rh.ps_refuse Z.e1 rfl (takes_of rfl rfl rfl rfl) (by rfl))) pss_nil))), ?_⟩
    show (_ : TS) _ [some (v)] H
    cases hl : lenB v with
    | false => exact q_dropX (ex_call (ea_one (ev_var rfl)) (sx_cl hk hl) (qf (few_len hl)))
    | true =>
      refine q_chk (ev_call (ea_one (ev_var rfl)) (go_cl hk hl)) fun H1 e1 => ?_
      obtain ⟨n, rfl⟩ : ∃ n, v = .int n := by cases v <;> first | exact ⟨_, rfl⟩ | cases hl
      have hn : 1 ≤ n := of_decide_eq_true hl
      refine s_if (et_test (ev_gt (ev_var rfl) ev_c)) (fun hb H2 e2 => s_raise (qf ?_ H2 (e1.trans e2))) (fun hb H2 e2 => qt ?_ H2 (e1.trans e2))
      · have hb := of_decide_eq_true hb
        show (decide (1 ≤ n) && decide (n ≤ 100)) = false
        rw [decide_eq_false (show ¬ n ≤ 100 by omega), Bool.and_false]
      · have hb := of_decide_eq_false hb
        show (decide (1 ≤ n) && decide (n ≤ 100)) = true
        rw [decide_eq_true hn, decide_eq_true (show n ≤ 100 by omega)]
        rfl
theorem ok_parts {f : Addr} {fd : FuncData} (F : Fun K "parts" "parts" s_parts f fd) (g : mg "parts" = some (.ref f)) (B : Bl mg)
    {Y : Nat → Addr} {YH : Addr} (Z : Errs K mg Y YH)
    {f_check_heap : Addr} {fd_check_heap : FuncData} (D_check_heap : Dfn P w K mg base (L2.CX P w) 3 "check_heap" f_check_heap fd_check_heap ["heap"] (sp5_check_heap K Y))
    {f_check_few : Addr} {fd_check_few : FuncData} (D_check_few : Dfn P w K mg base (L2.CX P w) 3 "check_few" f_check_few fd_check_few ["length"] (sp5_check_few Y))
    {f_marks_of : Addr} {fd_marks_of : FuncData} (D_marks_of : Dfn P w K mg base CX0 1 "marks_of" f_marks_of fd_marks_of ["heap"] (sp_marks_of K))
    {f_heap_of : Addr} {fd_heap_of : FuncData} (D_heap_of : Dfn P w K mg base CX0 1 "heap_of" f_heap_of fd_heap_of ["marks"] (sp_heap_of K)) :
    Dfn P w K mg base (L2.CX P w) 4 "parts" f fd ["heap", "length"] (sp5_parts K Y) := by
  refine ⟨F.okX sc_parts (fun vs H Q E h => ?_) (fun cdv A outer s H vs Q E hr h => ?_), F.kp, F.binds (ps := ["heap", "length"]) fun _ _ _ _ _ _ us hl => match us, hl with | [_, _], _ => rfl, g⟩
  · obtain ⟨h, l, rfl, hc⟩ := h
    rfl
  · obtain ⟨h, l, rfl, hc⟩ := h
    refine ⟨_, (pss_cons (ps_expr (Rh.pe_dfn D_check_heap hr (by decide) (by rfl) (Rh.passE rfl rfl rfl rfl) (pa_cons (pv 0) pa_nil)))
      (pss_cons (ps_expr (Rh.pe_dfn D_check_few hr (by decide) (by rfl) (Rh.passE rfl rfl rfl rfl) (pa_cons (pv 1) pa_nil)))
      (pss_cons (ps_set (i := 2) sc_parts.nd rfl (Or.inl rfl) (Rh.pe_dfn D_marks_of hr (by decide) (by rfl) pass0 (pa_cons (pe_op op_cat (pv 0) (pe_op op_rep (pe_lst (pa_cons pe_int pa_nil)) (pe_op op_mod (pe_un un_neg (pe_callB (Rh.k_len K rfl) (by rfl) B.len PySem.boot_len (pa_cons (pv 0) pa_nil))) (pv 1)))) pa_nil)))
      (pss_cons (ps_setLc (i := 3) (own := [("rest", 5)]) (g := (gName 5)) (tt := tYes)  rfl sc_parts.nd rfl rfl (sw_true rfl rfl rfl (by decide +kernel)) (pi_range1 (by rfl) B.range (pa_cons (pv 1) pa_nil)) (blkOk_by (N := ["heap", "length", "told", "found", "mark", "rest", "some"]) (sc := defScope s_parts) (by decide +kernel)) (fun _ _ _ _ _ => (pg_name (i := 5) sc_parts.nd rfl (Or.inl rfl))) (fun _ _ _ _ _ => pts_nil) (fun _ _ _ _ _ => (pe_lst pa_nil)))
      (pss_cons (ps_for (passes_of rfl) rfl (pi_list (pv 2)) (pg_name (i := 4) sc_parts.nd rfl (Or.inl rfl))
        (pss_one (ps_expr (pe_bm PySem.F.plainAttrs_list PySem.F.slot_list_append PySem.F.type_list_append mt_append (pe_ix (Rh.k_ixl K rfl) (pv 3) (pe_op op_mod (pv 4) (pv 1)) (fun _ _ => rfl)) (pa_cons (pe_op op_fdivW (pv 4) (pv 1)) pa_nil)))))
      (pss_one (ps_ret (pe_lc (own := [("some", 6)]) (g := (gName 6)) (tt := tYes)  (by rfl) sc_parts.nd (pi_list (pv 3)) (blkOk_by (N := ["heap", "length", "told", "found", "mark", "rest", "some"]) (sc := defScope s_parts) (by decide +kernel)) (fun _ _ _ _ _ => (pg_name (i := 6) sc_parts.nd rfl (Or.inl rfl))) (fun _ _ _ _ _ => pts_nil) (fun _ _ _ _ _ => (Rh.pe_dfn D_heap_of hr (by decide) (by rfl) pass0 (pa_cons (pv 6) pa_nil))))))))))), ?_⟩
    show (_ : TS) _ [some (h), some (l), none, none, none, none, none] H
    rcases hc with ⟨hj, hx⟩ | ⟨ns, g, k, hb, hx⟩ | ⟨a, ns, i, rfl, hA, ⟨hh, hl, hL1, hL2⟩, rfl, q⟩
    · exact q_dropX (ex_call (ea_one (ev_var rfl)) (sx_ch hj) hx)
    · refine q_chk (ev_call (ea_one (ev_var rfl)) (go_ch g.hj)) fun H1 e1 => ?_
      exact q_dropX (ex_call (ea_one (ev_var rfl)) (sx_cf (k.ex e1) hb) (hx.ex e1))
    · have hfew : fewB (.int i) = true := by
        show (decide (1 ≤ i) && decide (i ≤ 100)) = true
        rw [decide_eq_true hL1, decide_eq_true hL2]
        rfl
      have hL : 0 < i := by omega
      have hlog := small_log (show 0 ≤ i by omega) (show i < 1000000 by omega)
      have hpn := padN_lt (h := ns) hL
      have hps := padM_size ns (L := i)
      have hrn := rest_ok hL (-(ns.length : Int))
      have hcl : ∀ pre : List Int, pre.length ≤ 25100 → ∀ n, (cl pre i (n % i)).length < 100000 := fun pre h n => by
        have := cnt_le pre i (n % i)
        rw [cl_len]
        omega
      refine q_chk (ev_call (ea_one (ev_var rfl)) (go_ch (.heap (sq_map hA) hh (by omega)))) fun H1 e1 => ?_
      refine q_chk (ev_call (ea_one (ev_var rfl)) (go_cf (.inl (.int i)) hfew)) fun H2 e2 => ?_
      have hA2 := (e1.trans e2) _ _ hA
      refine q_asgL (xs := (padM ns i).map V.int) (el_cL1 (el_pad (k := padN ns i) (ev_var rfl) hA2 (by omega) (ev_mod (ev_neg (ev_lenL (ev_var rfl) (sq_map hA2))) (ev_var rfl) hL) (by omega) rfl) (by show (ns ++ zeros (padN ns i)).length ≤ 30000; rw [List.length_append]; unfold zeros; rw [List.length_replicate]; omega) rfl) fun p H3 hp3 e3 h3 => ?_
      have e03 := (e1.trans e2).trans e3
      refine q_asgLLs (ell_cR (fun _ => []) (ea_one (ev_var rfl)) (by omega) (fun _ => rfl) fun k hk => el_nil) fun pf bs H4 n => ?_
      obtain ⟨n1, n2, n3, n4, n5, n6, n7⟩ := n
      refine q_forP (ev_var rfl) (sq_map (n5 _ _ h3)) (fun pre σ' H' => ∃ y4, σ' = [some (.ref a), some (.int i), some (.ref p), some (.ref pf), y4, none, none] ∧ Ex H3 H' ∧ H' pf = some (.lst (rs bs)) ∧ LL H' bs (clsOf pre i)) (fun H5 e5 => ⟨none, rfl, n5.trans e5, e5 _ _ n6, n7.ex e5⟩) (fun pre σ' H' w => ?_) (fun pre n post σ' H' hn w => ?_) fun σ' H' w => ?_
      · obtain ⟨_, _, e, _⟩ := w
        exact sq_map (e _ _ h3)
      · obtain ⟨y4, rfl, e, hf, hl2⟩ := w
        have hpl : pre.length < (padM ns i).length := by rw [hn]; simp
        have hr := rest_ok hL n
        obtain ⟨b, hb, hbo⟩ := hl2.at (clsOf_at (M := pre) hr)
        have hbm := List.mem_of_getElem? hb
        have hat := atI_rs hb
        have er : (((n % i).toNat : Nat) : Int) = n % i := by omega
        rw [er] at hat
        refine s_appI hbo (ev_ixl (ev_var rfl) (sq_of hf) (ev_mod (ev_var rfl) (ev_var rfl) hL) hat) (ev_div (ev_var rfl) (ev_var rfl) (div_ok hL hlog)) (hcl pre (by omega) n) fun H6 e6 => ?_
        refine ⟨_, rfl, (e.trans e6).mut (n2 b hbm), ?_, ?_⟩
        · rw [upd_ne fun z => n4 (by rw [z]; exact hbm)]
          exact e6 _ _ hf
        · rw [clsOf_snoc hL]
          exact (hl2.ex e6).put n3 hb
      · obtain ⟨y4, rfl, e, hf, hl2⟩ := w
        refine s_retLL (ps := partsOf ns i) ?_ fun p5 bs5 H5 n => q p5 bs5 H5 (n.back (e03.trans e))
        rw [← clsOf_parts]
        refine ell_cS heapOf (ev_var rfl) (sl_of hf hl2) (by unfold clsOf; rw [List.length_map, List.length_range]; omega) (fun _ => rfl) fun b p hp hb => ?_
        exact el_call (ea_one (ev_var rfl)) (go_L (sq_map hb) (by have := clsOf_len hp; show _ ≤ 30000; omega) rfl)
theorem ok_joined {f : Addr} {fd : FuncData} (F : Fun K "joined" "joined" s_joined f fd) (g : mg "joined" = some (.ref f)) (B : Bl mg)
    {Y : Nat → Addr} {YH : Addr} (Z : Errs K mg Y YH)
    {f_check_heap : Addr} {fd_check_heap : FuncData} (D_check_heap : Dfn P w K mg base (L2.CX P w) 3 "check_heap" f_check_heap fd_check_heap ["heap"] (sp5_check_heap K Y))
    {f_check_few : Addr} {fd_check_few : FuncData} (D_check_few : Dfn P w K mg base (L2.CX P w) 3 "check_few" f_check_few fd_check_few ["length"] (sp5_check_few Y))
    {f_is_heap : Addr} {fd_is_heap : FuncData} (D_is_heap : Dfn P w K mg base CX0 2 "is_heap" f_is_heap fd_is_heap ["thing"] (sp5_is_heap K))
    {f_rims_of : Addr} {fd_rims_of : FuncData} (D_rims_of : Dfn P w K mg base CX0 2 "rims_of" f_rims_of fd_rims_of ["heap", "length"] (sp_rims_of K))
    {f_marks_of : Addr} {fd_marks_of : FuncData} (D_marks_of : Dfn P w K mg base CX0 1 "marks_of" f_marks_of fd_marks_of ["heap"] (sp_marks_of K))
    {f_counts_of : Addr} {fd_counts_of : FuncData} (D_counts_of : Dfn P w K mg base CX0 1 "counts_of" f_counts_of fd_counts_of ["told", "length"] (sp_counts_of K))
    {f_heap_of : Addr} {fd_heap_of : FuncData} (D_heap_of : Dfn P w K mg base CX0 1 "heap_of" f_heap_of fd_heap_of ["marks"] (sp_heap_of K)) :
    Dfn P w K mg base (L2.CX P w) 4 "joined" f fd ["core", "parts", "length"] (sp5_joined K Y) := by
  refine ⟨F.okX sc_joined (fun vs H Q E h => ?_) (fun cdv A outer s H vs Q E hr h => ?_), F.kp, F.binds (ps := ["core", "parts", "length"]) fun _ _ _ _ _ _ us hl => match us, hl with | [_, _, _], _ => rfl, g⟩
  · obtain ⟨h, p, l, rfl, hc⟩ := h
    rfl
  · obtain ⟨h, p, l, rfl, hc⟩ := h
    refine ⟨_, (pss_cons (ps_expr (Rh.pe_dfn D_check_heap hr (by decide) (by rfl) (Rh.passE rfl rfl rfl rfl) (pa_cons (pv 0) pa_nil)))
      (pss_cons (ps_expr (Rh.pe_dfn D_check_few hr (by decide) (by rfl) (Rh.passE rfl rfl rfl rfl) (pa_cons (pv 2) pa_nil)))
      (pss_cons (ps_if (PW.pt (pw_or (pt_not (pt_val (pe_callB (Rh.k_isi K rfl) (by rfl) B.isinstance boot_isinstance (pa_cons (pv 1) (pa_cons (pe_bltn (v := .ty "list") (by rfl) B.list boot_list rfl) pa_nil))))) (pw_or (pt_cmpR op_ne (pe_callB (Rh.k_len K rfl) (by rfl) B.len PySem.boot_len (pa_cons (pv 1) pa_nil)) (pv 2) (nomark _)) (pw_or1 (pt_not (pt_val (pe_callB (Rh.k_all K rfl (by rfl)) (by rfl) B.all boot_all (pa_cons (pe_lc (own := [("part", 3)]) (g := (gName 3)) (tt := tYes)  (by rfl) sc_joined.nd (pi_list (pv 1)) (blkOk_by (N := ["core", "parts", "length", "part", "deep", "told", "counts", "found", "rest", "rows", "mark"]) (sc := defScope s_joined) (by decide +kernel)) (fun _ _ _ _ _ => (pg_name (i := 3) sc_joined.nd rfl (Or.inl rfl))) (fun _ _ _ _ _ => pts_nil) (fun _ _ _ _ _ => (Rh.pe_dfn D_is_heap hr (by decide) (by rfl) pass0 (pa_cons (pv 3) pa_nil)))) pa_nil))))))))
        (pss_one (Rh.ps_refuse Z.e3 rfl (takes_of rfl rfl rfl rfl) (by rfl))) pss_nil)
      (pss_cons (ps_if (pt_cmpR (Rh.k_neD K rfl hr.units) (Rh.pe_dfn D_rims_of hr (by decide) (by rfl) pass0 (pa_cons (pv 0) (pa_cons (pv 2) pa_nil))) (pe_lst pa_nil) (nomark _))
        (pss_one (Rh.ps_refuse Z.e3 rfl (takes_of rfl rfl rfl rfl) (by rfl))) pss_nil)
      (pss_cons (ps_set (i := 4) sc_joined.nd rfl (Or.inl rfl) (pe_callB (Rh.k_max K rfl (by rfl)) (by rfl) B.max boot_max (pa_cons (pe_lc (own := [("part", 3)]) (g := (gName 3)) (tt := tYes)  (by rfl) sc_joined.nd (pi_list (pv 1)) (blkOk_by (N := ["core", "parts", "length", "part", "deep", "told", "counts", "found", "rest", "rows", "mark"]) (sc := defScope s_joined) (by decide +kernel)) (fun _ _ _ _ _ => (pg_name (i := 3) sc_joined.nd rfl (Or.inl rfl))) (fun _ _ _ _ _ => pts_nil) (fun _ _ _ _ _ => (pe_callB (Rh.k_len K rfl) (by rfl) B.len PySem.boot_len (pa_cons (pv 3) pa_nil)))) pa_nil)))
      (pss_cons (ps_set (i := 5) sc_joined.nd rfl (Or.inl rfl) (Rh.pe_dfn D_marks_of hr (by decide) (by rfl) pass0 (pa_cons (pe_op op_cat (pv 0) (pe_op op_rep (pe_lst (pa_cons pe_int pa_nil)) (pe_op op_add (pe_op op_mod (pe_un un_neg (pe_callB (Rh.k_len K rfl) (by rfl) B.len PySem.boot_len (pa_cons (pv 0) pa_nil))) (pv 2)) (pe_op Rh.op_mulO (pv 2) (pv 4))))) pa_nil)))
      (pss_cons (ps_set (i := 6) sc_joined.nd rfl (Or.inl rfl) (Rh.pe_dfn D_counts_of hr (by decide) (by rfl) pass0 (pa_cons (pv 5) (pa_cons (pv 2) pa_nil))))
      (pss_cons (ps_set (i := 7) sc_joined.nd rfl (Or.inl rfl) (pe_lst pa_nil))
      (pss_cons (ps_for (passes_of rfl) rfl (pi_enum (by rfl) B.enumerate (pa_cons (pv 1) pa_nil)) (pg_tup rfl (pgs_cons (pg_name (i := 8) sc_joined.nd rfl (Or.inr rfl)) (pgs_cons (pg_name (i := 3) sc_joined.nd rfl (Or.inl rfl)) pgs_nil)))
        (pss_cons (ps_set (i := 9) sc_joined.nd rfl (Or.inl rfl) (pe_op op_cat (pv 3) (pe_op op_rep (pe_lst (pa_cons pe_int pa_nil)) (pe_op op_sub (pe_dget2 (hu_of hr) (pv 6) (pv 8) pe_int ⟨rfl, rfl, rfl, rfl⟩) (pe_callB (Rh.k_len K rfl) (by rfl) B.len PySem.boot_len (pa_cons (pv 3) pa_nil))))))
      (pss_one (ps_expr (pe_bm PySem.F.plainAttrs_list PySem.F.slot_list_extend PySem.F.type_list_extend mt_extend (pv 7) (pa_cons (pe_lc (own := [("mark", 10)]) (g := (gName 10)) (tt := tYes)  (by rfl) sc_joined.nd (pi_list (Rh.pe_dfn D_marks_of hr (by decide) (by rfl) pass0 (pa_cons (pv 9) pa_nil))) (blkOk_by (N := ["core", "parts", "length", "part", "deep", "told", "counts", "found", "rest", "rows", "mark"]) (sc := defScope s_joined) (by decide +kernel)) (fun _ _ _ _ _ => (pg_name (i := 10) sc_joined.nd rfl (Or.inl rfl))) (fun _ _ _ _ _ => pts_nil) (fun _ _ _ _ _ => (pe_op op_add (pv 8) (pe_op Rh.op_mulO (pv 2) (pv 10))))) pa_nil))))))
      (pss_one (ps_ret (Rh.pe_dfn D_heap_of hr (by decide) (by rfl) pass0 (pa_cons (pv 7) pa_nil))))))))))))), ?_⟩
    show (_ : TS) _ [some (h), some (p), some (l), none, none, none, none, none, none, none, none] H
    rcases hc with ⟨hj, hx⟩ | ⟨ns, g, k, hb, hx⟩ | ⟨ns, i, g, rfl, hi, hi2, hp, hx⟩
    · exact q_dropX (ex_call (ea_one (ev_var rfl)) (sx_ch hj) hx)
    · refine q_chk (ev_call (ea_one (ev_var rfl)) (go_ch g.hj)) fun H1 e1 => ?_
      exact q_dropX (ex_call (ea_one (ev_var rfl)) (sx_cf (k.ex e1) hb) (hx.ex e1))
    · have hfew : fewB (.int i) = true := by
        show (decide (1 ≤ i) && decide (i ≤ 100)) = true
        rw [decide_eq_true hi, decide_eq_true hi2]
        rfl
      refine q_chk (ev_call (ea_one (ev_var rfl)) (go_ch g.hj)) fun H1 e1 => ?_
      refine q_chk (ev_call (ea_one (ev_var rfl)) (go_cf (.inl (.int i)) hfew)) fun H2 e2 => ?_
      have e02 := e1.trans e2
      rcases hp with hp | ⟨hp, hr⟩
      · rcases hp with k | ⟨b, xs, rfl, hB, hxl, hcase⟩
        · refine q_when (b := true) (et_is (et_or (b := false) (et_not (et_B (ev_isa (b := false) (ev_var rfl) fun H' e => (k.ex (e02.trans e)).noList))) fun h => nomatch h) rfl) (fun _ H3 e3 => s_raise (hx H3 (e02.trans e3))) (fun h => nomatch h)
        · have sB := ex_l e02 hB
          by_cases hlen : ((xs.length : Nat) : Int) = i
          · obtain ⟨bs, hbs, hall⟩ := hcase.resolve_left (fun z => z hlen)
            have hbs2 := hbs.ex e02
            have hbl := hbs.len
            refine q_when (b := true) (et_is (et_or (et_not (et_B (ev_isiL (b := true) (ev_var rfl) sB (by decide +kernel)))) fun _ => et_or (et_test (ev_neI (ev_lenX (ev_var rfl) sB) (ev_var rfl))) fun _ => et_not (et_B (ev_allN (bs := bs) (el_cI (ev_var rfl) sB (by omega) (by rw [List.length_map, hbl]) (fun _ => rfl) fun k x y hx hy => ?_)))) (by rw [hall]; simp)) (fun _ H3 e3 => s_raise (hx H3 (e02.trans e3))) (fun h => nomatch h)
            obtain ⟨b2, h1, h2⟩ := hbs2.get hx
            rw [List.getElem?_map, h1] at hy
            cases hy
            exact ev_call (ea_one (ev_var rfl)) (go_ih h2)
          · refine q_when (b := true) (et_is (et_or (et_not (et_B (ev_isiL (b := true) (ev_var rfl) sB (by decide +kernel)))) fun _ => et_or (b := false) (et_test (ev_neI (ev_lenX (ev_var rfl) sB) (ev_var rfl))) fun hq => ?_) (by rw [decide_eq_false hlen]; rfl)) (fun _ H3 e3 => s_raise (hx H3 (e02.trans e3))) (fun h => nomatch h)
            rw [decide_eq_false hlen] at hq
            cases hq
      · obtain ⟨b, xs, bs, rfl, hB, hxl, hlen, hbs, hall⟩ := hp
        have sB := ex_l e02 hB
        have hbs2 := hbs.ex e02
        have hbl := hbs.len
        refine q_when (b := false) (et_is (et_or (et_not (et_B (ev_isiL (b := true) (ev_var rfl) sB (by decide +kernel)))) fun _ => et_or (et_test (ev_neI (ev_lenX (ev_var rfl) sB) (ev_var rfl))) fun _ => et_not (et_B (ev_allN (bs := bs) (el_cI (ev_var rfl) sB (by omega) (by rw [List.length_map, hbl]) (fun _ => rfl) fun k x y hx hy => ?_)))) (by rw [hall, decide_eq_true hlen]; rfl)) (fun h => nomatch h) fun _ H3 e3 => ?_
        · obtain ⟨b2, h1, h2⟩ := hbs2.get hx
          rw [List.getElem?_map, h1] at hy
          cases hy
          exact ev_call (ea_one (ev_var rfl)) (go_ih h2)
        · obtain ⟨a, rfl, hS, hH, hl⟩ := g
          exact q_when (b := true) (et_is (et_test (ev_neNN (el_call (ea_two (ev_var rfl) (ev_var rfl)) (go_Li (ex_l (e02.trans e3) hS) hl rfl)) el_nil)) (by rw [decide_eq_false hr]; rfl)) (fun _ H4 e4 => s_raise (hx H4 ((e02.trans e3).trans e4))) (fun h => nomatch h)
theorem ok_Gone_init {f : Addr} {fd : FuncData} (F : Fun K "__init__" "Gone.__init__" s_Gone_init f fd) (B : Bl mg)
    {Y : Nat → Addr} {YH : Addr} (Z : Errs K mg Y YH)
    {C CA : Addr} (T : GoneT K mg C CA) (M : Mk K C f) :
    MkD P w K mg base CX0 1 C f fd ["self", "rows", "left"] (sp_Gone_init K C) := by
  refine ⟨M, F.ok sc_Gone_init (fun vs H Q E h => ?_) (fun cdv A outer s H vs Q E hr h => ?_), F.binds (ps := ["self", "rows", "left"]) fun _ _ _ _ _ _ us hl => match us, hl with | [_, _, _], _ => rfl⟩
  · obtain ⟨x, dx, a, b, rs, ls, rfl, hx, hA, hB, q⟩ := h
    rfl
  · obtain ⟨x, dx, a, b, rs, ls, rfl, hx, hA, hB, q⟩ := h
    refine ⟨_, (pss_cons (ps_fld (pv 0) (pe_callTy (Rh.k_list K rfl) (by rfl) B.list boot_list (pa_cons (pv 1) pa_nil)) rfl)
      (pss_one (ps_fld (pv 0) (pe_callTy (Rh.k_list K rfl) (by rfl) B.list boot_list (pa_cons (pv 2) pa_nil)) rfl))), ?_⟩
    show (_ : TS) _ [some (.ref x), some (.ref a), some (.ref b)] H
    refine ⟨.ref a, rfl, a, _, rfl, .inl hA, fun pr hpr => ?_⟩
    have nxr : x ≠ pr := ne_of_none hx hpr
    refine ⟨.ref x, rfl, x, C, dx, [], rfl, (by rw [upd_ne nxr]; exact hx), T.cl, T.nR, (by decide), ?_⟩
    have e1 : Ex H (upd H pr (.lst (rs.map V.int))) := Ex.new hpr
    have hB2 : SqL K (upd (upd H pr (.lst (rs.map V.int))) x (.ins C dx (putF "rows" (.ref pr) []))) b (ls.map V.int) := sq_other (ex_l e1 hB) (by rw [upd_ne nxr]; exact hx)
    refine ⟨.ref b, rfl, b, _, rfl, .inl hB2, fun pl hpl => ?_⟩
    have nxl : x ≠ pl := ne_of_none upd_same hpl
    have nrl : pr ≠ pl := ne_of_none (show (upd (upd H pr (.lst (rs.map V.int))) x (.ins C dx (putF "rows" (.ref pr) []))) pr = some (.lst (rs.map V.int)) by rw [upd_ne nxr.symm]; exact upd_same) hpl
    refine ⟨.ref x, rfl, x, C, dx, putF "rows" (.ref pr) [], rfl, (by rw [upd_ne nxl]; exact upd_same), T.cl, T.nL, (by show (1 : Nat) < 1000; decide), ?_⟩
    have hpl0 : H pl = none := by
      rw [upd_ne nxl.symm, upd_ne nrl.symm] at hpl
      exact hpl
    refine q pr pl _ hpr hpl0 nrl (fun c o hc hcx => ?_) upd_same ?_ ?_
    · rw [upd_ne hcx, upd_ne (ne_of_none hc hpl0), upd_ne hcx, upd_ne (ne_of_none hc hpr)]
      exact hc
    · rw [upd_ne nxr.symm, upd_ne nrl, upd_ne nxr.symm]
      exact upd_same
    · rw [upd_ne nxl.symm]
      exact upd_same
theorem ok_gone {f : Addr} {fd : FuncData} (F : Fun K "gone" "gone" s_gone f fd) (g : mg "gone" = some (.ref f)) (B : Bl mg)
    {Y : Nat → Addr} {YH : Addr} (Z : Errs K mg Y YH)
    {C CA : Addr} (T : GoneT K mg C CA)
    {f_rims_in : Addr} {fd_rims_in : FuncData} (D_rims_in : Dfn P w K mg base (L2.CX P w) 4 "rims_in" f_rims_in fd_rims_in ["heap", "length"] (sp5_rims_in K Y))
    {f_rims_of : Addr} {fd_rims_of : FuncData} (D_rims_of : Dfn P w K mg base CX0 2 "rims_of" f_rims_of fd_rims_of ["heap", "length"] (sp_rims_of K))
    {f_behind : Addr} {fd_behind : FuncData} (D_behind : Dfn P w K mg base CX0 2 "behind" f_behind fd_behind ["heap", "length", "row"] (sp_behind K))
    {f_Gone_init : Addr} {fd_Gone_init : FuncData} (D_Gone_init : MkD P w K mg base CX0 1 C f_Gone_init fd_Gone_init ["self", "rows", "left"] (sp_Gone_init K C))
    {t_MOST_telling : Tok} (c_MOST_telling : mg "MOST_telling" = some (.int 1000 t_MOST_telling)) :
    Dfn P w K mg base (L2.CX P w) 5 "gone" f fd ["heap", "length"] (sp5_gone K Y C) := by
  refine ⟨F.okX sc_gone (fun vs H Q E h => ?_) (fun cdv A outer s H vs Q E hr h => ?_), F.kp, F.binds (ps := ["heap", "length"]) fun _ _ _ _ _ _ us hl => match us, hl with | [_, _], _ => rfl, g⟩
  · obtain ⟨h, l, rfl, hc⟩ := h
    rfl
  · obtain ⟨h, l, rfl, hc⟩ := h
    refine ⟨_, (pss_cons (ps_if (pt_cmpR op_gt (Rh.pe_dfn D_rims_in hr (by decide) (by rfl) (Rh.passE rfl rfl rfl rfl) (pa_cons (pv 0) (pa_cons (pv 1) pa_nil))) (pe_glob (v := .int 1000) (by rfl) c_MOST_telling ⟨_, rfl⟩) (nomark _))
        (pss_one (Rh.ps_refuse Z.e4 rfl (takes_of rfl rfl rfl rfl) (by rfl))) pss_nil)
      (pss_cons (ps_set (i := 2) sc_gone.nd rfl (Or.inl rfl) (pe_callTy (Rh.k_list K rfl) (by rfl) B.list boot_list (pa_cons (pv 0) pa_nil)))
      (pss_cons (ps_set (i := 3) sc_gone.nd rfl (Or.inl rfl) (pe_lst pa_nil))
      (pss_cons (ps_set (i := 4) sc_gone.nd rfl (Or.inl rfl) (Rh.pe_dfn D_rims_of hr (by decide) (by rfl) pass0 (pa_cons (pv 2) (pa_cons (pv 1) pa_nil))))
      (pss_cons (ps_while (passes_of rfl) (pt_cmpR (Rh.k_neD K rfl hr.units) (pv 4) (pe_lst pa_nil) (nomark _))
        (pss_cons (ps_expr (pe_bm PySem.F.plainAttrs_list PySem.F.slot_list_append PySem.F.type_list_append mt_append (pv 3) (pa_cons (pe_ix (Rh.k_ixl K rfl) (pv 4) (pe_un un_neg pe_int) (fun _ _ => rfl)) pa_nil)))
      (pss_cons (ps_set (i := 2) sc_gone.nd rfl (Or.inl rfl) (Rh.pe_dfn D_behind hr (by decide) (by rfl) pass0 (pa_cons (pv 2) (pa_cons (pv 1) (pa_cons (pe_ix (Rh.k_ixl K rfl) (pv 4) (pe_un un_neg pe_int) (fun _ _ => rfl)) pa_nil)))))
      (pss_one (ps_set (i := 4) sc_gone.nd rfl (Or.inl rfl) (Rh.pe_dfn D_rims_of hr (by decide) (by rfl) pass0 (pa_cons (pv 2) (pa_cons (pv 1) pa_nil))))))))
      (pss_one (ps_ret (Rh.pe_mkd D_Gone_init hr (by decide) (by rfl) T.mgC pass0 (pa_cons (pv 3) (pa_cons (pv 2) pa_nil)))))))))), ?_⟩
    show (_ : TS) _ [some (h), some (l), none, none, none] H
    rcases hc with ⟨hj, hx⟩ | ⟨ns, g, k, hb, hx⟩ | ⟨ns, i, g, rfl, hi, hw, hbig, hx⟩ | ⟨a, hs, i, he, hS, hp, q⟩
    · exact q_whenX (ext_test (ex_op1 (ex_call (ea_two (ev_var rfl) (ev_var rfl)) (sx_ri0 hj) hx)))
    · exact q_whenX (ext_test (ex_op1 (ex_call (ea_two (ev_var rfl) (ev_var rfl)) (sx_ri1 g k hb) hx)))
    · exact q_when (b := true) (et_is (et_test (ev_gt (ev_call (ea_two (ev_var rfl) (ev_var rfl)) (go_ri g hi hw)) ev_c)) (by rw [decide_eq_true hbig])) (fun _ H1 e1 => s_raise (hx H1 e1)) (fun h => nomatch h)
    · cases he
      obtain ⟨hh, hi1, hlog, hrm⟩ := hp
      have hi1 : 1 ≤ i := hi1
      have hi : 0 < i := by omega
      have hl : hs.length ≤ 30000 := hh.2
      refine q_when (b := false) (et_is (et_test (ev_gt (ev_call (ea_two (ev_var rfl) (ev_var rfl)) (go_ri ⟨a, rfl, hS, hh.1, hh.2⟩ hi1 hlog)) ev_c)) (by rw [decide_eq_false (by omega)])) (fun h => nomatch h) fun _ H0 e0 => ?_
      refine q_asgL (el_listL (ev_var rfl) (ex_l e0 hS)) fun p0 H1 hp0 e1 h1 => ?_
      refine q_lnew fun pr H2 hpr e2 h2 => ?_
      have e02 := (e0.trans e1).trans e2
      have hpr0 : H pr = none := fresh_back (e0.trans e1) hpr
      refine q_asgL (el_call (ea_two (ev_var rfl) (ev_var rfl)) (go_Li (sq_map (e2 _ _ h1)) hh.2 rfl)) fun pt H3 hpt e3 h3 => ?_
      obtain ⟨W, hW⟩ : ∃ W : Nat → L2.St → Hp → Prop, W = fun m σ' H' => ∃ p ms pt R, σ' = [some (.ref a), some (.int i), some (.ref p), some (.ref pr), some (.ref pt)] ∧ Ex H H' ∧ H' p = some (.lst (ms.map V.int)) ∧ H' pr = some (.lst (R.map V.int)) ∧ H' pt = some (.lst ((rimsH ms i).map V.int)) ∧ p ≠ pr ∧ pt ≠ pr ∧ IsHeap ms ∧ coreOf ms i = coreOf hs i ∧ rimsIn ms i = rimsIn hs i - (R.length : Int) ∧ runM i hs R = some ms ∧ m = (rimsIn ms i).toNat := ⟨_, rfl⟩
      refine q_while W (rimsIn hs i).toNat (by rw [hW]; exact ⟨p0, hs, pt, [], rfl, e02.trans e3, e3 _ _ (e2 _ _ h1), e3 _ _ h2, h3, ne_of_none h1 hpr, (ne_of_none h2 hpt).symm, hh.1, rfl, by simp, rfl, rfl⟩) fun m σ' H' w => ?_
      rw [hW] at w
      obtain ⟨p, ms, pt, R, rfl, e, hm, hR, ht, npr, ntr, hmh, hmc, hmr, hrun, rfl⟩ := w
      have st := sq_map (K := K) ht
      have hml : ms.length ≤ 30000 := Nat.le_trans (runM_len hrun) hl
      have hnn := rims_nn hmh hi
      refine ⟨_, et_test (ev_neM (ev_var rfl) el_nil st), fun hb H4 e4 => ?_, fun hb H4 e4 => ?_⟩
      · have hb : rimsH ms i ≠ [] := by simpa using hb
        have hpos : 0 < (rimsH ms i).length := List.length_pos_iff.mpr hb
        have hne : rimsIn ms i ≠ 0 := fun z => hb ((rims_none hmh hi).mpr z)
        have hlast : (rimsH ms i).getD ((rimsH ms i).length - 1) 0 ∈ rimsH ms i := by
          rw [List.getD_eq_getElem?_getD, List.getElem?_eq_getElem (by omega)]
          exact List.getElem_mem _
        have hat := atI_lastI hpos
        generalize (rimsH ms i).getD ((rimsH ms i).length - 1) 0 = n at hlast hat
        obtain ⟨k, rfl, hk, hk2⟩ := rim_row hlast
        obtain ⟨b1, b2, b3, b4, b5⟩ := behind_ok hmh hi hk2
        refine ⟨fun σ2 H2 => ∃ m', m' < (rimsIn ms i).toNat ∧ W m' σ2 H2, fun σ2 H2 h => h, ?_⟩
        refine q_appI (e4 _ _ hR) (ev_var rfl) (ev_ixl (ev_var rfl) (ex_l e4 st) (ev_neg ev_c) hat) (by omega) fun H5 e5 => ?_
        have e05 : Ex H (upd H5 pr (.lst ((R ++ [((k : Nat) : Int)]).map V.int))) := ((e.trans e4).trans e5).mut hpr0
        have hm5 : (upd H5 pr (.lst ((R ++ [((k : Nat) : Int)]).map V.int))) p = some (.lst (ms.map V.int)) := by rw [upd_ne npr]; exact e5 _ _ (e4 _ _ hm)
        have ht5 : (upd H5 pr (.lst ((R ++ [((k : Nat) : Int)]).map V.int))) pt = some (.lst ((rimsH ms i).map V.int)) := by rw [upd_ne ntr]; exact e5 _ _ (e4 _ _ ht)
        have hr5 : (upd H5 pr (.lst ((R ++ [((k : Nat) : Int)]).map V.int))) pr = some (.lst ((R ++ [((k : Nat) : Int)]).map V.int)) := upd_same
        generalize upd H5 pr (.lst ((R ++ [((k : Nat) : Int)]).map V.int)) = H6 at e05 hm5 ht5 hr5
        refine q_asgL (el_call (ea_three (ev_var rfl) (ev_var rfl) (ev_ixl (ev_var rfl) (sq_map ht5) (ev_neg ev_c) hat)) (go_Lii (xs := behindOf ms i k) (sq_map hm5) ⟨hml, k, rfl, hk⟩ rfl)) fun pn H7 hpn e7 h7 => ?_
        have hbl : Len (behindOf ms i k) := by show _ ≤ 30000; omega
        refine s_asgL (el_call (ea_two (ev_var rfl) (ev_var rfl)) (go_Li (sq_map h7) hbl rfl)) fun pt2 H8 hpt2 e8 h8 => ?_
        have hr7 := e7 _ _ hr5
        refine ⟨(rimsIn (behindOf ms i k) i).toNat, by omega, ?_⟩
        rw [hW]
        exact ⟨pn, _, pt2, _, rfl, (e05.trans e7).trans e8, e8 _ _ h7, e8 _ _ hr7, h8, (ne_of_none hr5 hpn).symm, (ne_of_none hr7 hpt2).symm, b1, by rw [b3, hmc], by rw [List.length_append, List.length_singleton]; omega, runM_snoc hrun hlast, rfl⟩
      · have hb : rimsH ms i = [] := by simpa using hb
        have hz := (rims_none hmh hi).mp hb
        have hcs : ms = coreOf hs i := by rw [← hmc, core_self hmh hi hz]
        have e04 := e.trans e4
        refine ⟨.ref pr, rfl, .ref p, rfl, fun x dx hx hdx hdx2 => ?_⟩
        have hx0 : H x = none := fresh_back e04 hx
        have hdx0 : H dx = none := fresh_back e04 hdx
        have hR4 := e4 _ _ hR
        have hm4 := e4 _ _ hm
        have e5 : Ex H4 (upd (upd H4 dx (.own x)) x (.ins C dx [])) := fun c o hc => by
          rw [upd_ne (ne_of_none hc hx), upd_ne (ne_of_none hc hdx)]
          exact hc
        refine ⟨x, dx, pr, p, R, ms, rfl, upd_same, sq_map (e5 _ _ hR4), sq_map (e5 _ _ hm4), fun qr ql H5 hqr hql hne keep hx5 hr5 hl5 => ⟨rfl, ?_⟩⟩
        have e6 : Ex H4 H5 := fun c o hc => keep c o (e5 c o hc) (ne_of_none hc hx)
        refine q x qr ql R H5 hx0 (fresh_back (e04.trans e5) hqr) (fresh_back (e04.trans e5) hql) hne (e04.trans e6) ⟨dx, hx5⟩ hr5 (by rw [← hcs]; exact hl5) (by rw [← hcs]; exact hrun) (by omega)
theorem ok__law_with_heap {f : Addr} {fd : FuncData} (F : Fun K "_law_with_heap" "_law_with_heap" s__law_with_heap f fd) (g : mg "_law_with_heap" = some (.ref f)) (B : Bl mg)
    {Y : Nat → Addr} {YH : Addr} (Z : Errs K mg Y YH)
    {C CA : Addr} (T : GoneT K mg C CA)
    {f_marks_by : Addr} {fd_marks_by : FuncData} (D_marks_by : Dfn P w K mg base (L2.CX P w) 4 "marks_by" f_marks_by fd_marks_by ["heap"] (sp5_one K Y))
    {f_squares : Addr} {fd_squares : FuncData} (D_squares : Dfn P w K mg base (L2.CX P w) 4 "squares" f_squares fd_squares ["heap"] (sp5_one K Y))
    {f_hook : Addr} {fd_hook : FuncData} (D_hook : Dfn P w K mg base (L2.CX P w) 4 "hook" f_hook fd_hook ["heap", "row", "square"] (sp5_hook K Y))
    {f_rims : Addr} {fd_rims : FuncData} (D_rims : Dfn P w K mg base (L2.CX P w) 4 "rims" f_rims fd_rims ["heap", "length"] (sp5_two K Y))
    {f_taken : Addr} {fd_taken : FuncData} (D_taken : Dfn P w K mg base (L2.CX P w) 4 "taken" f_taken fd_taken ["heap", "length", "row"] (sp5_taken K Y))
    {f_core : Addr} {fd_core : FuncData} (D_core : Dfn P w K mg base (L2.CX P w) 4 "core" f_core fd_core ["heap", "length"] (sp5_two K Y))
    {f_rims_in : Addr} {fd_rims_in : FuncData} (D_rims_in : Dfn P w K mg base (L2.CX P w) 4 "rims_in" f_rims_in fd_rims_in ["heap", "length"] (sp5_rims_in K Y))
    {f_parts : Addr} {fd_parts : FuncData} (D_parts : Dfn P w K mg base (L2.CX P w) 4 "parts" f_parts fd_parts ["heap", "length"] (sp5_parts K Y))
    {f_joined : Addr} {fd_joined : FuncData} (D_joined : Dfn P w K mg base (L2.CX P w) 4 "joined" f_joined fd_joined ["core", "parts", "length"] (sp5_joined K Y))
    {f_gone : Addr} {fd_gone : FuncData} (D_gone : Dfn P w K mg base (L2.CX P w) 5 "gone" f_gone fd_gone ["heap", "length"] (sp5_gone K Y C)) :
    Dfn P w K mg base (L2.CX P w) 6 "_law_with_heap" f fd ["_law_door", "_law_heap_here"] (sp5_with_heap K Y) := by
  refine ⟨F.okX sc__law_with_heap (fun vs H Q E h => ?_) (fun cdv A outer s H vs Q E hr h => ?_), F.kp, F.binds (ps := ["_law_door", "_law_heap_here"]) fun _ _ _ _ _ _ us hl => match us, hl with | [_, _], _ => rfl, g⟩
  · obtain ⟨d, v, rfl, hd, hj, hx⟩ := h
    rfl
  · obtain ⟨d, v, rfl, hd, hj, hx⟩ := h
    refine ⟨_, (pss_cons (ps_if (pt_cmpR op_lt (pv 0) pe_int (nomark _))
        (pss_one (ps_ret (pe_ifExp (pt_cmpR op_eq (pv 0) pe_int (nomark _)) (Rh.pe_dfn D_marks_by hr (by decide) (by rfl) (Rh.passE rfl rfl rfl rfl) (pa_cons (pv 1) pa_nil)) (pe_ifExp (pt_cmpR op_eq (pv 0) pe_int (nomark _)) (Rh.pe_dfn D_squares hr (by decide) (by rfl) (Rh.passE rfl rfl rfl rfl) (pa_cons (pv 1) pa_nil)) (Rh.pe_dfn D_hook hr (by decide) (by rfl) (Rh.passE rfl rfl rfl rfl) (pa_cons (pv 1) (pa_cons (pe_un un_neg pe_int) (pa_cons pe_non pa_nil)))))))) pss_nil)
      (pss_cons (ps_if (pt_cmpR op_lt (pv 0) pe_int (nomark _))
        (pss_one (ps_ret (pe_ifExp (pt_cmpR op_eq (pv 0) pe_int (nomark _)) (Rh.pe_dfn D_rims hr (by decide) (by rfl) (Rh.passE rfl rfl rfl rfl) (pa_cons (pv 1) (pa_cons pe_int pa_nil))) (Rh.pe_dfn D_taken hr (by decide) (by rfl) (Rh.passE rfl rfl rfl rfl) (pa_cons (pv 1) (pa_cons pe_non (pa_cons (pe_un un_neg pe_int) pa_nil))))))) pss_nil)
      (pss_cons (ps_if (pt_cmpR op_lt (pv 0) pe_int (nomark _))
        (pss_one (ps_ret (pe_ifExp (pt_cmpR op_eq (pv 0) pe_int (nomark _)) (Rh.pe_dfn D_core hr (by decide) (by rfl) (Rh.passE rfl rfl rfl rfl) (pa_cons (pv 1) (pa_cons pe_int pa_nil))) (pe_ifExp (pt_cmpR op_eq (pv 0) pe_int (nomark _)) (Rh.pe_dfn D_rims_in hr (by decide) (by rfl) (Rh.passE rfl rfl rfl rfl) (pa_cons (pv 1) (pa_cons pe_non pa_nil))) (Rh.pe_dfn D_parts hr (by decide) (by rfl) (Rh.passE rfl rfl rfl rfl) (pa_cons (pv 1) (pa_cons pe_int pa_nil))))))) pss_nil)
      (pss_one (ps_ret (pe_ifExp (pt_cmpR op_eq (pv 0) pe_int (nomark _)) (Rh.pe_dfn D_joined hr (by decide) (by rfl) (Rh.passE rfl rfl rfl rfl) (pa_cons (pv 1) (pa_cons pe_non (pa_cons pe_int pa_nil)))) (Rh.pe_dfn D_gone hr (by decide) (by rfl) (Rh.passE rfl rfl rfl rfl) (pa_cons (pv 1) (pa_cons pe_int pa_nil))))))))), ?_⟩
    show (_ : TS) _ [some (.int d), some (v)] H
    refine q_when (et_test (ev_lt (ev_var rfl) ev_c)) (fun _ H1 e1 => ?_) (fun _ H1 e1 => ?_)
    · have j1 := hj.ex e1
      have x1 := hx.ex e1
      exact s_retX (ex_if (et_test (ev_eqI (ev_var rfl) ev_c)) (fun _ => ex_call (ea_one (ev_var rfl)) (sx_one j1) x1) fun _ => ex_if (et_test (ev_eqI (ev_var rfl) ev_c)) (fun _ => ex_call (ea_one (ev_var rfl)) (sx_one j1) x1) fun _ => ex_call (ea_three (ev_var rfl) (ev_neg ev_c) ev_c) (sx_hook0 j1) x1)
    refine q_when (et_test (ev_lt (ev_var rfl) ev_c)) (fun _ H2 e2 => ?_) (fun _ H2 e2 => ?_)
    · have j1 := hj.ex (e1.trans e2)
      have x1 := hx.ex (e1.trans e2)
      exact s_retX (ex_if (et_test (ev_eqI (ev_var rfl) ev_c)) (fun _ => ex_call (ea_two (ev_var rfl) ev_c) (sx_two0 j1) x1) fun _ => ex_call (ea_three (ev_var rfl) ev_c (ev_neg ev_c)) (sx_taken0 j1) x1)
    refine q_when (et_test (ev_lt (ev_var rfl) ev_c)) (fun _ H3 e3 => ?_) (fun _ H3 e3 => ?_)
    · have j1 := hj.ex ((e1.trans e2).trans e3)
      have x1 := hx.ex ((e1.trans e2).trans e3)
      exact s_retX (ex_if (et_test (ev_eqI (ev_var rfl) ev_c)) (fun _ => ex_call (ea_two (ev_var rfl) ev_c) (sx_two0 j1) x1) fun _ => ex_if (et_test (ev_eqI (ev_var rfl) ev_c)) (fun _ => ex_call (ea_two (ev_var rfl) ev_c) (sx_ri0 j1) x1) fun _ => ex_call (ea_two (ev_var rfl) ev_c) (sx_parts0 j1) x1)
    · have j1 := hj.ex ((e1.trans e2).trans e3)
      have x1 := hx.ex ((e1.trans e2).trans e3)
      exact s_retX (ex_if (et_test (ev_eqI (ev_var rfl) ev_c)) (fun _ => ex_call (ea_three (ev_var rfl) ev_c ev_c) (sx_joined0 j1) x1) fun _ => ex_call (ea_two (ev_var rfl) ev_c) (sx_gone0 j1) x1)
theorem ok__law_with_length {f : Addr} {fd : FuncData} (F : Fun K "_law_with_length" "_law_with_length" s__law_with_length f fd) (g : mg "_law_with_length" = some (.ref f)) (B : Bl mg)
    {Y : Nat → Addr} {YH : Addr} (Z : Errs K mg Y YH)
    {C CA : Addr} (T : GoneT K mg C CA)
    {f_rims : Addr} {fd_rims : FuncData} (D_rims : Dfn P w K mg base (L2.CX P w) 4 "rims" f_rims fd_rims ["heap", "length"] (sp5_two K Y))
    {f_taken : Addr} {fd_taken : FuncData} (D_taken : Dfn P w K mg base (L2.CX P w) 4 "taken" f_taken fd_taken ["heap", "length", "row"] (sp5_taken K Y))
    {f_core : Addr} {fd_core : FuncData} (D_core : Dfn P w K mg base (L2.CX P w) 4 "core" f_core fd_core ["heap", "length"] (sp5_two K Y))
    {f_rims_in : Addr} {fd_rims_in : FuncData} (D_rims_in : Dfn P w K mg base (L2.CX P w) 4 "rims_in" f_rims_in fd_rims_in ["heap", "length"] (sp5_rims_in K Y))
    {f_gone : Addr} {fd_gone : FuncData} (D_gone : Dfn P w K mg base (L2.CX P w) 5 "gone" f_gone fd_gone ["heap", "length"] (sp5_gone K Y C))
    {f_parts : Addr} {fd_parts : FuncData} (D_parts : Dfn P w K mg base (L2.CX P w) 4 "parts" f_parts fd_parts ["heap", "length"] (sp5_parts K Y))
    {f_joined : Addr} {fd_joined : FuncData} (D_joined : Dfn P w K mg base (L2.CX P w) 4 "joined" f_joined fd_joined ["core", "parts", "length"] (sp5_joined K Y)) :
    Dfn P w K mg base (L2.CX P w) 6 "_law_with_length" f fd ["_law_door", "_law_length"] (sp5_with_length Y) := by
  refine ⟨F.okX sc__law_with_length (fun vs H Q E h => ?_) (fun cdv A outer s H vs Q E hr h => ?_), F.kp, F.binds (ps := ["_law_door", "_law_length"]) fun _ _ _ _ _ _ us hl => match us, hl with | [_, _], _ => rfl, g⟩
  · obtain ⟨d, v, rfl, hd, hk, h1, h2, hx⟩ := h
    rfl
  · obtain ⟨d, v, rfl, hd, hk, h1, h2, hx⟩ := h
    refine ⟨_, (pss_cons (ps_set (i := 2) sc__law_with_length.nd rfl (Or.inl rfl) (pe_lst (pa_cons pe_int (pa_cons pe_int pa_nil))))
      (pss_cons (ps_if (pt_cmpR op_lt (pv 0) pe_int (nomark _))
        (pss_one (ps_ret (pe_ifExp (pt_cmpR op_eq (pv 0) pe_int (nomark _)) (Rh.pe_dfn D_rims hr (by decide) (by rfl) (Rh.passE rfl rfl rfl rfl) (pa_cons (pv 2) (pa_cons (pv 1) pa_nil))) (Rh.pe_dfn D_taken hr (by decide) (by rfl) (Rh.passE rfl rfl rfl rfl) (pa_cons (pv 2) (pa_cons (pv 1) (pa_cons (pe_un un_neg pe_int) pa_nil))))))) pss_nil)
      (pss_cons (ps_if (pt_cmpR op_lt (pv 0) pe_int (nomark _))
        (pss_one (ps_ret (pe_ifExp (pt_cmpR op_eq (pv 0) pe_int (nomark _)) (Rh.pe_dfn D_core hr (by decide) (by rfl) (Rh.passE rfl rfl rfl rfl) (pa_cons (pv 2) (pa_cons (pv 1) pa_nil))) (Rh.pe_dfn D_rims_in hr (by decide) (by rfl) (Rh.passE rfl rfl rfl rfl) (pa_cons (pv 2) (pa_cons (pv 1) pa_nil)))))) pss_nil)
      (pss_one (ps_ret (pe_ifExp (pt_cmpR op_eq (pv 0) pe_int (nomark _)) (Rh.pe_dfn D_gone hr (by decide) (by rfl) (Rh.passE rfl rfl rfl rfl) (pa_cons (pv 2) (pa_cons (pv 1) pa_nil))) (pe_ifExp (pt_cmpR op_eq (pv 0) pe_int (nomark _)) (Rh.pe_dfn D_parts hr (by decide) (by rfl) (Rh.passE rfl rfl rfl rfl) (pa_cons (pv 2) (pa_cons (pv 1) pa_nil))) (Rh.pe_dfn D_joined hr (by decide) (by rfl) (Rh.passE rfl rfl rfl rfl) (pa_cons (pv 2) (pa_cons pe_non (pa_cons (pv 1) pa_nil))))))))))), ?_⟩
    show (_ : TS) _ [some (.int d), some (v), none] H
    refine q_asgL (xs := ([2000, 3] : List Int).map V.int) (el_lst (ea_two ev_c ev_c) (Nat.le_of_ble_eq_true rfl)) fun p H0 hp e0 hp0 => ?_
    have g0 : GoodH K H0 (.ref p) [2000, 3] := ⟨p, rfl, sq_map hp0, isHeap_dec (by decide) (by decide), by decide⟩
    have k0 := hk.ex e0
    have x0 := hx.ex e0
    refine q_when (et_test (ev_lt (ev_var rfl) ev_c)) (fun hb H1 e1 => ?_) (fun hb H1 e1 => ?_)
    · have hb := of_decide_eq_true hb
      have hl := h1 (by omega)
      exact s_retX (ex_if (et_test (ev_eqI (ev_var rfl) ev_c)) (fun _ => ex_call (ea_two (ev_var rfl) (ev_var rfl)) (sx_two1 (g0.ex e1) (k0.ex e1) hl) (x0.ex e1)) fun _ => ex_call (ea_three (ev_var rfl) (ev_var rfl) (ev_neg ev_c)) (sx_taken1 (g0.ex e1) (k0.ex e1) hl) (x0.ex e1))
    refine q_when (et_test (ev_lt (ev_var rfl) ev_c)) (fun hb H2 e2 => ?_) (fun hb H2 e2 => ?_)
    · have hb := of_decide_eq_true hb
      have hl := h1 (by omega)
      have e12 := e1.trans e2
      exact s_retX (ex_if (et_test (ev_eqI (ev_var rfl) ev_c)) (fun _ => ex_call (ea_two (ev_var rfl) (ev_var rfl)) (sx_two1 (g0.ex e12) (k0.ex e12) hl) (x0.ex e12)) fun _ => ex_call (ea_two (ev_var rfl) (ev_var rfl)) (sx_ri1 (g0.ex e12) (k0.ex e12) hl) (x0.ex e12))
    · have e12 := e1.trans e2
      exact s_retX (ex_if (et_test (ev_eqI (ev_var rfl) ev_c)) (fun hq => ex_call (ea_two (ev_var rfl) (ev_var rfl)) (sx_gone1 (g0.ex e12) (k0.ex e12) (h1 (by have := of_decide_eq_true hq; omega))) (x0.ex e12)) fun _ => ex_if (et_test (ev_eqI (ev_var rfl) ev_c)) (fun _ => ex_call (ea_two (ev_var rfl) (ev_var rfl)) (sx_parts1 (g0.ex e12) (k0.ex e12) h2) (x0.ex e12)) fun _ => ex_call (ea_three (ev_var rfl) ev_c (ev_var rfl)) (sx_joined1 (g0.ex e12) (k0.ex e12) h2) (x0.ex e12))
theorem ok__law_with_square {f : Addr} {fd : FuncData} (F : Fun K "_law_with_square" "_law_with_square" s__law_with_square f fd) (g : mg "_law_with_square" = some (.ref f)) (B : Bl mg)
    {Y : Nat → Addr} {YH : Addr} (Z : Errs K mg Y YH)
    {f_hook : Addr} {fd_hook : FuncData} (D_hook : Dfn P w K mg base (L2.CX P w) 4 "hook" f_hook fd_hook ["heap", "row", "square"] (sp5_hook K Y)) :
    Dfn P w K mg base (L2.CX P w) 5 "_law_with_square" f fd ["_law_heap_here", "_law_pair"] (sp5_with_square K Y) := by
  refine ⟨F.okX sc__law_with_square (fun vs H Q E h => ?_) (fun cdv A outer s H vs Q E hr h => ?_), F.kp, F.binds (ps := ["_law_heap_here", "_law_pair"]) fun _ _ _ _ _ _ us hl => match us, hl with | [_, _], _ => rfl, g⟩
  · obtain ⟨h, b, ns, r, s, rfl, g, hb, kr, ks, hp, hx⟩ := h
    rfl
  · obtain ⟨h, b, ns, r, s, rfl, g, hb, kr, ks, hp, hx⟩ := h
    refine ⟨_, (pss_one (ps_ret (Rh.pe_dfn D_hook hr (by decide) (by rfl) (Rh.passE rfl rfl rfl rfl) (pa_cons (pv 0) (pa_cons (pe_ix (Rh.k_ixt K rfl) (pv 1) pe_int (fun _ _ => rfl)) (pa_cons (pe_ix (Rh.k_ixt K rfl) (pv 1) pe_int (fun _ _ => rfl)) pa_nil)))))), ?_⟩
    show (_ : TS) _ [some (h), some (.ref b)] H
    exact s_retX (ex_call (ea_three (ev_var rfl) (ev_ixt (ev_var rfl) hb ev_c (by rfl)) (ev_ixt (ev_var rfl) hb ev_c (by rfl))) (sx_hook2 g kr ks hp) hx)
theorem ok__law_with_row {f : Addr} {fd : FuncData} (F : Fun K "_law_with_row" "_law_with_row" s__law_with_row f fd) (g : mg "_law_with_row" = some (.ref f)) (B : Bl mg)
    {Y : Nat → Addr} {YH : Addr} (Z : Errs K mg Y YH)
    {f_taken : Addr} {fd_taken : FuncData} (D_taken : Dfn P w K mg base (L2.CX P w) 4 "taken" f_taken fd_taken ["heap", "length", "row"] (sp5_taken K Y)) :
    Dfn P w K mg base (L2.CX P w) 5 "_law_with_row" f fd ["_law_heap_here", "_law_pair"] (sp5_with_row K Y) := by
  refine ⟨F.okX sc__law_with_row (fun vs H Q E h => ?_) (fun cdv A outer s H vs Q E hr h => ?_), F.kp, F.binds (ps := ["_law_heap_here", "_law_pair"]) fun _ _ _ _ _ _ us hl => match us, hl with | [_, _], _ => rfl, g⟩
  · obtain ⟨h, b, ns, i, r, rfl, g, hb, hi, kr, hp, hx⟩ := h
    rfl
  · obtain ⟨h, b, ns, i, r, rfl, g, hb, hi, kr, hp, hx⟩ := h
    refine ⟨_, (pss_one (ps_ret (Rh.pe_dfn D_taken hr (by decide) (by rfl) (Rh.passE rfl rfl rfl rfl) (pa_cons (pv 0) (pa_cons (pe_ix (Rh.k_ixt K rfl) (pv 1) pe_int (fun _ _ => rfl)) (pa_cons (pe_ix (Rh.k_ixt K rfl) (pv 1) pe_int (fun _ _ => rfl)) pa_nil)))))), ?_⟩
    show (_ : TS) _ [some (h), some (.ref b)] H
    exact s_retX (ex_call (ea_three (ev_var rfl) (ev_ixt (ev_var rfl) hb ev_c (by rfl)) (ev_ixt (ev_var rfl) hb ev_c (by rfl))) (sx_taken2 g hi kr hp) hx)
theorem ok__law_with_parts {f : Addr} {fd : FuncData} (F : Fun K "_law_with_parts" "_law_with_parts" s__law_with_parts f fd) (g : mg "_law_with_parts" = some (.ref f)) (B : Bl mg)
    {Y : Nat → Addr} {YH : Addr} (Z : Errs K mg Y YH)
    {f_joined : Addr} {fd_joined : FuncData} (D_joined : Dfn P w K mg base (L2.CX P w) 4 "joined" f_joined fd_joined ["core", "parts", "length"] (sp5_joined K Y)) :
    Dfn P w K mg base (L2.CX P w) 5 "_law_with_parts" f fd ["_law_left", "_law_some"] (sp5_with_parts K Y) := by
  refine ⟨F.okX sc__law_with_parts (fun vs H Q E h => ?_) (fun cdv A outer s H vs Q E hr h => ?_), F.kp, F.binds (ps := ["_law_left", "_law_some"]) fun _ _ _ _ _ _ us hl => match us, hl with | [_, _], _ => rfl, g⟩
  · obtain ⟨h, p, ns, rfl, g, hp, hx⟩ := h
    rfl
  · obtain ⟨h, p, ns, rfl, g, hp, hx⟩ := h
    refine ⟨_, (pss_one (ps_ret (Rh.pe_dfn D_joined hr (by decide) (by rfl) (Rh.passE rfl rfl rfl rfl) (pa_cons (pv 0) (pa_cons (pv 1) (pa_cons pe_int pa_nil)))))), ?_⟩
    show (_ : TS) _ [some (h), some (p)] H
    exact s_retX (ex_call (ea_three (ev_var rfl) (ev_var rfl) ev_c) (sx_joined3 g (by decide) hp) hx)
theorem ok__law_too_many {f : Addr} {fd : FuncData} (F : Fun K "_law_too_many" "_law_too_many" s__law_too_many f fd) (g : mg "_law_too_many" = some (.ref f)) (B : Bl mg)
    {Y : Nat → Addr} {YH : Addr} (Z : Errs K mg Y YH)
    {C CA : Addr} (T : GoneT K mg C CA)
    {f_gone : Addr} {fd_gone : FuncData} (D_gone : Dfn P w K mg base (L2.CX P w) 5 "gone" f_gone fd_gone ["heap", "length"] (sp5_gone K Y C)) :
    Dfn P w K mg base (L2.CX P w) 6 "_law_too_many" f fd ["_law_heap_here", "_law_length"] (sp5_too_many K Y) := by
  refine ⟨F.okX sc__law_too_many (fun vs H Q E h => ?_) (fun cdv A outer s H vs Q E hr h => ?_), F.kp, F.binds (ps := ["_law_heap_here", "_law_length"]) fun _ _ _ _ _ _ us hl => match us, hl with | [_, _], _ => rfl, g⟩
  · obtain ⟨h, ns, i, rfl, g, hi, hl, hr2, hx⟩ := h
    rfl
  · obtain ⟨h, ns, i, rfl, g, hi, hl, hr2, hx⟩ := h
    refine ⟨_, (pss_one (ps_ret (Rh.pe_dfn D_gone hr (by decide) (by rfl) (Rh.passE rfl rfl rfl rfl) (pa_cons (pv 0) (pa_cons (pv 1) pa_nil))))), ?_⟩
    show (_ : TS) _ [some (h), some (.int i)] H
    exact s_retX (ex_call (ea_two (ev_var rfl) (ev_var rfl)) (sx_gone4 g hi hl hr2) hx)
theorem ok__law_kinds {f : Addr} {fd : FuncData} (F : Fun K "_law_kinds" "_law_kinds" s__law_kinds f fd) (g : mg "_law_kinds" = some (.ref f)) (B : Bl mg)
    {Y : Nat → Addr} {YH : Addr} (Z : Errs K mg Y YH) :
    DfnZ P w K mg base 1 "_law_kinds" f fd ["_law_error"] (sp5_kinds Y) := by
  refine ⟨fun_okZ F sc__law_kinds (fun a cls vs H Q E h => ?_) (fun cdv A outer s H vs Q E p cls hz hf hr h => ?_), F.kp, F.binds (ps := ["_law_error"]) fun _ _ _ _ _ _ us hl => match us, hl with | [_], _ => rfl, g⟩
  · obtain ⟨j, rfl, _⟩ := h
    rfl
  · obtain ⟨j, rfl, rfl, hj, q⟩ := h
    obtain ⟨ic, ve⟩ := Z.at hj
    refine ⟨_, (pss_cons (ps_set (i := 1) sc__law_kinds.nd rfl (Or.inl rfl) (pe_lst (pa_cons (pe_callB (Rh.call_isP ic hz hf (List.mem_singleton.mpr rfl)) (by rfl) B.isinstance boot_isinstance (pa_cons (pv 0) (pa_cons (pe_glob (v := .ref (Y 0)) (by rfl) Z.e0.mgC rfl) pa_nil))) (pa_cons (pe_callB (Rh.call_isP ic hz hf (List.mem_singleton.mpr rfl)) (by rfl) B.isinstance boot_isinstance (pa_cons (pv 0) (pa_cons (pe_glob (v := .ref (Y 1)) (by rfl) Z.e1.mgC rfl) pa_nil))) (pa_cons (pe_callB (Rh.call_isP ic hz hf (List.mem_singleton.mpr rfl)) (by rfl) B.isinstance boot_isinstance (pa_cons (pv 0) (pa_cons (pe_glob (v := .ref (Y 2)) (by rfl) Z.e2.mgC rfl) pa_nil))) pa_nil))))) (pss_one (ps_ret (pe_op op_cat (pv 1) (pe_lst (pa_cons (pe_callB (Rh.call_isP ic hz hf (List.mem_singleton.mpr rfl)) (by rfl) B.isinstance boot_isinstance (pa_cons (pv 0) (pa_cons (pe_glob (v := .ref (Y 3)) (by rfl) Z.e3.mgC rfl) pa_nil))) (pa_cons (pe_callB (Rh.call_isP ic hz hf (List.mem_singleton.mpr rfl)) (by rfl) B.isinstance boot_isinstance (pa_cons (pv 0) (pa_cons (pe_glob (v := .ref (Y 4)) (by rfl) Z.e4.mgC rfl) pa_nil))) (pa_cons (pe_callB (Rh.call_isP ic hz hf (List.mem_singleton.mpr rfl)) (by rfl) B.isinstance boot_isinstance (pa_cons (pv 0) (pa_cons (pe_bltn (v := .ty "ValueError") (by rfl) Z.mgV boot_ValueError rfl) pa_nil))) pa_nil)))))))), ?_⟩
    show (_ : TS) _ [some (.ref p.1), none] H
    refine q_asgL (xs := [decide (j = 0), decide (j = 1), decide (j = 2)].map V.bl) (el_lst (ea_three (ev_isE (ev_var rfl) (fun u r => r) (Z.is 0 j (by decide) hj)) (ev_isE (ev_var rfl) (fun u r => r) (Z.is 1 j (by decide) hj)) (ev_isE (ev_var rfl) (fun u r => r) (Z.is 2 j (by decide) hj))) (Nat.le_of_ble_eq_true rfl)) fun p1 H1 hp1 e1 h1 => ?_
    exact s_retL (el_catXN (ys := [decide (j = 3), decide (j = 4), true].map V.bl) (ev_var rfl) h1 (el_lst (ea_three (ev_isE (ev_var rfl) (fun u r => r) (Z.is 3 j (by decide) hj)) (ev_isE (ev_var rfl) (fun u r => r) (Z.is 4 j (by decide) hj)) (ev_isE (ev_var rfl) (fun u r => r) ve)) (Nat.le_of_ble_eq_true rfl)) (Nat.le_of_ble_eq_true rfl)) fun p2 H2 hp2 e2 h2 => RetL.go q e1 hp2 e2 h2
theorem ok__law_told {f : Addr} {fd : FuncData} (F : Fun K "_law_told" "_law_told" s__law_told f fd) (g : mg "_law_told" = some (.ref f)) (B : Bl mg)
    {Y : Nat → Addr} {YH : Addr} (Z : Errs K mg Y YH)
    {C CA : Addr} (T : GoneT K mg C CA)
    {f__law_kinds : Addr} {fd__law_kinds : FuncData} (D__law_kinds : DfnZ P w K mg base 1 "_law_kinds" f__law_kinds fd__law_kinds ["_law_error"] (sp5_kinds Y))
    {f__law_with_heap : Addr} {fd__law_with_heap : FuncData} (D__law_with_heap : Dfn P w K mg base (L2.CX P w) 6 "_law_with_heap" f__law_with_heap fd__law_with_heap ["_law_door", "_law_heap_here"] (sp5_with_heap K Y))
    {f__law_with_length : Addr} {fd__law_with_length : FuncData} (D__law_with_length : Dfn P w K mg base (L2.CX P w) 6 "_law_with_length" f__law_with_length fd__law_with_length ["_law_door", "_law_length"] (sp5_with_length Y))
    {f__law_with_square : Addr} {fd__law_with_square : FuncData} (D__law_with_square : Dfn P w K mg base (L2.CX P w) 5 "_law_with_square" f__law_with_square fd__law_with_square ["_law_heap_here", "_law_pair"] (sp5_with_square K Y))
    {f__law_with_row : Addr} {fd__law_with_row : FuncData} (D__law_with_row : Dfn P w K mg base (L2.CX P w) 5 "_law_with_row" f__law_with_row fd__law_with_row ["_law_heap_here", "_law_pair"] (sp5_with_row K Y))
    {f__law_with_parts : Addr} {fd__law_with_parts : FuncData} (D__law_with_parts : Dfn P w K mg base (L2.CX P w) 5 "_law_with_parts" f__law_with_parts fd__law_with_parts ["_law_left", "_law_some"] (sp5_with_parts K Y))
    {f__law_too_many : Addr} {fd__law_too_many : FuncData} (D__law_too_many : Dfn P w K mg base (L2.CX P w) 6 "_law_too_many" f__law_too_many fd__law_too_many ["_law_heap_here", "_law_length"] (sp5_too_many K Y)) :
    Dfn P w K mg base CX0 7 "_law_told" f fd ["_law_ask", "_law_one", "_law_other"] (sp5_told Y (S6 K Y f__law_with_heap f__law_with_length f__law_with_square f__law_with_row f__law_with_parts f__law_too_many)) := by
  refine ⟨F.ok sc__law_told (fun vs H Q E h => ?_) (fun cdv A outer s H vs Q E hr h => ?_), F.kp, F.binds (ps := ["_law_ask", "_law_one", "_law_other"]) fun _ _ _ _ _ _ us hl => match us, hl with | [_, _, _], _ => rfl, g⟩
  · obtain ⟨fa, sp, x, y, j, rfl, _⟩ := h
    rfl
  · obtain ⟨fa, sp, x, y, j, rfl, hS, hX, hj, q⟩ := h
    have HA : ∀ f sp, S6 K Y f__law_with_heap f__law_with_length f__law_with_square f__law_with_row f__law_with_parts f__law_too_many f sp → HeldX P w K mg base 6 f sp := by
      rintro f sp (⟨rfl, rfl⟩ | ⟨rfl, rfl⟩ | ⟨rfl, rfl⟩ | ⟨rfl, rfl⟩ | ⟨rfl, rfl⟩ | ⟨rfl, rfl⟩)
      · exact ⟨_, _, D__law_with_heap.ok.mono (by decide), D__law_with_heap.kp, D__law_with_heap.bd⟩
      · exact ⟨_, _, D__law_with_length.ok.mono (by decide), D__law_with_length.kp, D__law_with_length.bd⟩
      · exact ⟨_, _, D__law_with_square.ok.mono (by decide), D__law_with_square.kp, D__law_with_square.bd⟩
      · exact ⟨_, _, D__law_with_row.ok.mono (by decide), D__law_with_row.kp, D__law_with_row.bd⟩
      · exact ⟨_, _, D__law_with_parts.ok.mono (by decide), D__law_with_parts.kp, D__law_with_parts.bd⟩
      · exact ⟨_, _, D__law_too_many.ok.mono (by decide), D__law_too_many.kp, D__law_too_many.bd⟩
    have rH := (L2H.roomH_of hr).mono (show 1 ≤ 6 by decide)
    refine ⟨_, (pss_cons (ps_try_as (i := 3) (n := "_law_error") (c := .ref YH) (tb := fun W => tDrop (tCallR 0 (S6 K Y f__law_with_heap f__law_with_length f__law_with_square f__law_with_row f__law_with_parts f__law_too_many) (WE W) (tCons (tVar 1) (tCons (tVar 2) tNil)))) (ts := fun a cls d => match d with | none => tRet (tCallZ (sp5_kinds Y) a cls (tCons (tVar 3) tNil)) | some _ => tNever) (Wout := fun _ _ _ _ => False) rfl rfl sc__law_told.nd rfl rfl ⟨by rfl, by decide, Or.inl Z.mgH⟩ takes0
      (fun W pn xe tk _ => pss_one (ps_expr (pe_callR HA hr (fun σ => passAt tk σ) rfl (Or.inl rfl) (pa_cons (pv 1) (pa_cons (pv 2) pa_nil)))))
      (fun a oe cls d pn hz hf => match d, hz with
        | none, hz => pss_one (ps_ret (pe_callZ (k := 1) (a := a) (oe := oe) D__law_kinds.ok ⟨rH.dp, rH.un⟩ (List.mem_cons_self) hz hf (by rfl) D__law_kinds.gl D__law_kinds.kp D__law_kinds.bd (pa_cons (pv 3) pa_nil)))
        | some _, _ => pss_one ps_never)) (pss_one (ps_ret (pe_lst pa_nil)))), ?_⟩
    show (_ : TS) _ [some (.ref fa), some x, some y, none] H
    have h2 : EvA (tCons (tVar 1) (tCons (tVar 2) tNil)) [some (.ref fa), some x, some y, none] H [x, y] := ea_two (ev_var rfl) (ev_var rfl)
    refine ⟨fa, sp, rfl, hS, h2 H (Ex.refl H) _ fun H1 e1 => hX H1 e1 _ _ fun H2 e2 => ?_⟩
    refine ⟨true, Z.exm j hj, fun _ a ha => ?_, fun z => nomatch z⟩
    have h3 : EvA (tCons (tVar 3) tNil) [some (.ref fa), some x, some y, some (.ref a)] H2 [.ref a] := ea_one (ev_var rfl)
    show tCallZ (sp5_kinds Y) a (.ref (Y j)) (tCons (tVar 3) tNil) [some (.ref fa), some x, some y, some (.ref a)] H2 _
    unfold tCallZ
    refine h3 H2 (Ex.refl H2) _ fun H3 e3 => ?_
    refine ⟨j, rfl, rfl, hj, fun p H4 hp e4 h4 => ?_⟩
    exact q p H4 (fresh_back ((e1.trans e2).trans e3) hp) (((e1.trans e2).trans e3).trans e4) h4
theorem ok__law_all {f : Addr} {fd : FuncData} (F : Fun K "_law_all" "_law_all" s__law_all f fd) (g : mg "_law_all" = some (.ref f)) (B : Bl mg)
    {Y : Nat → Addr} {YH : Addr} (Z : Errs K mg Y YH)
    {C CA : Addr} (T : GoneT K mg C CA)
    {f__law_with_heap : Addr} {fd__law_with_heap : FuncData} (D__law_with_heap : Dfn P w K mg base (L2.CX P w) 6 "_law_with_heap" f__law_with_heap fd__law_with_heap ["_law_door", "_law_heap_here"] (sp5_with_heap K Y))
    {f__law_with_length : Addr} {fd__law_with_length : FuncData} (D__law_with_length : Dfn P w K mg base (L2.CX P w) 6 "_law_with_length" f__law_with_length fd__law_with_length ["_law_door", "_law_length"] (sp5_with_length Y))
    {f__law_with_square : Addr} {fd__law_with_square : FuncData} (D__law_with_square : Dfn P w K mg base (L2.CX P w) 5 "_law_with_square" f__law_with_square fd__law_with_square ["_law_heap_here", "_law_pair"] (sp5_with_square K Y))
    {f__law_with_row : Addr} {fd__law_with_row : FuncData} (D__law_with_row : Dfn P w K mg base (L2.CX P w) 5 "_law_with_row" f__law_with_row fd__law_with_row ["_law_heap_here", "_law_pair"] (sp5_with_row K Y))
    {f__law_with_parts : Addr} {fd__law_with_parts : FuncData} (D__law_with_parts : Dfn P w K mg base (L2.CX P w) 5 "_law_with_parts" f__law_with_parts fd__law_with_parts ["_law_left", "_law_some"] (sp5_with_parts K Y))
    {f__law_too_many : Addr} {fd__law_too_many : FuncData} (D__law_too_many : Dfn P w K mg base (L2.CX P w) 6 "_law_too_many" f__law_too_many fd__law_too_many ["_law_heap_here", "_law_length"] (sp5_too_many K Y))
    {f__law_told : Addr} {fd__law_told : FuncData} (D__law_told : Dfn P w K mg base CX0 7 "_law_told" f__law_told fd__law_told ["_law_ask", "_law_one", "_law_other"] (sp5_told Y (S6 K Y f__law_with_heap f__law_with_length f__law_with_square f__law_with_row f__law_with_parts f__law_too_many))) :
    Dfn P w K mg base CX0 8 "_law_all" f fd ["_law_ask", "_law_one", "_law_things", "_law_due"] (sp5_all K Y (S6 K Y f__law_with_heap f__law_with_length f__law_with_square f__law_with_row f__law_with_parts f__law_too_many)) := by
  refine ⟨F.ok sc__law_all (fun vs H Q E h => ?_) (fun cdv A outer s H vs Q E hr h => ?_), F.kp, F.binds (ps := ["_law_ask", "_law_one", "_law_things", "_law_due"]) fun _ _ _ _ _ _ us hl => match us, hl with | [_, _, _, _], _ => rfl, g⟩
  · obtain ⟨fa, sp, x, t, d, j, xs, rfl, hS, ht, hl, hX, hj, hd, q⟩ := h
    rfl
  · obtain ⟨fa, sp, x, t, d, j, xs, rfl, hS, ht, hl, hX, hj, hd, q⟩ := h
    refine ⟨_, (pss_one (ps_ret (pe_callB (Rh.k_all K rfl (by rfl)) (by rfl) B.all boot_all (pa_cons (pe_lc (own := [("_law_thing", 4)]) (g := (gName 4)) (tt := tYes)  (by rfl) sc__law_all.nd (pi_list (pv 2)) (blkOk_by (N := ["_law_ask", "_law_one", "_law_things", "_law_due", "_law_thing"]) (sc := defScope s__law_all) (by decide +kernel)) (fun _ _ _ _ _ => (pg_name (i := 4) sc__law_all.nd rfl (Or.inl rfl))) (fun _ _ _ _ _ => pts_nil) (fun _ _ _ _ _ => (pe_cmpR (Rh.k_eqD K rfl hr.units) (Rh.pe_dfn D__law_told hr (by decide) (by rfl) pass0 (pa_cons (pv 0) (pa_cons (pv 1) (pa_cons (pv 4) pa_nil)))) (pv 3) (nomark _)))) pa_nil)))), ?_⟩
    show (_ : TS) _ [some (.ref fa), some (x), some (.ref t), some (.ref d), none] H
    refine s_ret (v := .bl true) (ev_is (ev_allN (bs := xs.map fun _ => true) (el_cI (ys := (xs.map fun _ => true).map V.bl) (ev_var rfl) ht (by omega) (by rw [List.length_map, List.length_map]) (fun _ => rfl) fun k y z hy hz => ?_)) (by rw [all_true])) fun H1 e1 => RetV.go q e1
    rw [List.getElem?_map, List.getElem?_map, hy] at hz
    cases hz
    exact ev_eqBls (el_told (ea_three (ev_var rfl) (ev_var rfl) (ev_var rfl)) hS (hX y (List.mem_of_getElem? hy)) hj) (ev_var rfl) hd
theorem ok__law_places_right {f : Addr} {fd : FuncData} (F : Fun K "_law_places_right" "_law_places_right" s__law_places_right f fd) (g : mg "_law_places_right" = some (.ref f)) (B : Bl mg)
    {Y : Nat → Addr} {YH : Addr} (Z : Errs K mg Y YH)
    {C CA : Addr} (T : GoneT K mg C CA)
    {f__law_with_heap : Addr} {fd__law_with_heap : FuncData} (D__law_with_heap : Dfn P w K mg base (L2.CX P w) 6 "_law_with_heap" f__law_with_heap fd__law_with_heap ["_law_door", "_law_heap_here"] (sp5_with_heap K Y))
    {f__law_with_length : Addr} {fd__law_with_length : FuncData} (D__law_with_length : Dfn P w K mg base (L2.CX P w) 6 "_law_with_length" f__law_with_length fd__law_with_length ["_law_door", "_law_length"] (sp5_with_length Y))
    {f__law_with_square : Addr} {fd__law_with_square : FuncData} (D__law_with_square : Dfn P w K mg base (L2.CX P w) 5 "_law_with_square" f__law_with_square fd__law_with_square ["_law_heap_here", "_law_pair"] (sp5_with_square K Y))
    {f__law_with_row : Addr} {fd__law_with_row : FuncData} (D__law_with_row : Dfn P w K mg base (L2.CX P w) 5 "_law_with_row" f__law_with_row fd__law_with_row ["_law_heap_here", "_law_pair"] (sp5_with_row K Y))
    {f__law_with_parts : Addr} {fd__law_with_parts : FuncData} (D__law_with_parts : Dfn P w K mg base (L2.CX P w) 5 "_law_with_parts" f__law_with_parts fd__law_with_parts ["_law_left", "_law_some"] (sp5_with_parts K Y))
    {f__law_too_many : Addr} {fd__law_too_many : FuncData} (D__law_too_many : Dfn P w K mg base (L2.CX P w) 6 "_law_too_many" f__law_too_many fd__law_too_many ["_law_heap_here", "_law_length"] (sp5_too_many K Y))
    {f__law_all : Addr} {fd__law_all : FuncData} (D__law_all : Dfn P w K mg base CX0 8 "_law_all" f__law_all fd__law_all ["_law_ask", "_law_one", "_law_things", "_law_due"] (sp5_all K Y (S6 K Y f__law_with_heap f__law_with_length f__law_with_square f__law_with_row f__law_with_parts f__law_too_many))) :
    Dfn P w K mg base CX0 9 "_law_places_right" f fd ["_law_strange", "_law_far", "_law_due"] (sp5_places ) := by
  refine ⟨F.ok sc__law_places_right (fun vs H Q E h => ?_) (fun cdv A outer s H vs Q E hr h => ?_), F.kp, F.binds (ps := ["_law_strange", "_law_far", "_law_due"]) fun _ _ _ _ _ _ us hl => match us, hl with | [_, _, _], _ => rfl, g⟩
  · obtain ⟨s, far, d, xs, rfl, hs, hl, ho, hf, hd, q⟩ := h
    rfl
  · obtain ⟨s, far, d, xs, rfl, hs, hl, ho, hf, hd, q⟩ := h
    refine ⟨_, (pss_cons (ps_set (i := 3) sc__law_places_right.nd rfl (Or.inl rfl) (pe_op op_cat (pe_lst (pa_cons pe_int (pa_cons pe_int pa_nil))) (pe_op op_rep (pe_lst (pa_cons pe_int pa_nil)) (pe_op op_mod (pv 1) pe_int))))
      (pss_cons (ps_setLc (i := 4) (own := [("_law_thing", 6)]) (g := (gName 6)) (tt := tYes)  rfl sc__law_places_right.nd rfl rfl (sw_true rfl rfl rfl (by decide +kernel)) (pi_list (pe_op op_cat (pe_slice (Rh.k_sll K rfl) (pv 0) po_none (po_some pe_int)) (pe_lst (pa_cons (pe_un un_neg pe_int) (pa_cons (pe_op op_sub (pe_un un_neg pe_int) (pv 1)) (pa_cons (pe_callB (Rh.k_len K rfl) (by rfl) B.len PySem.boot_len (pa_cons (pv 3) pa_nil)) (pa_cons (pe_op op_add (pe_callB (Rh.k_len K rfl) (by rfl) B.len PySem.boot_len (pa_cons (pv 3) pa_nil)) (pv 1)) pa_nil))))))) (blkOk_by (N := ["_law_strange", "_law_far", "_law_due", "_law_small", "_law_places", "_law_rows", "_law_thing"]) (sc := defScope s__law_places_right) (by decide +kernel)) (fun _ _ _ _ _ => (pg_name (i := 6) sc__law_places_right.nd rfl (Or.inl rfl))) (fun _ _ _ _ _ => pts_nil) (fun _ _ _ _ _ => (pe_tup (pa_cons (pv 6) (pa_cons pe_int pa_nil)))))
      (pss_cons (ps_set (i := 4) sc__law_places_right.nd rfl (Or.inl rfl) (pe_op op_cat (pe_op op_cat (pv 4) (pe_lc (own := [("_law_thing", 6)]) (g := (gName 6)) (tt := tYes)  (by rfl) sc__law_places_right.nd (pi_list (pe_op op_cat (pe_slice (Rh.k_sll K rfl) (pv 0) po_none (po_some pe_int)) (pe_lst (pa_cons (pe_un un_neg pe_int) (pa_cons (pe_op op_sub (pe_un un_neg pe_int) (pv 1)) (pa_cons pe_int (pa_cons (pe_op op_add pe_int (pv 1)) pa_nil))))))) (blkOk_by (N := ["_law_strange", "_law_far", "_law_due", "_law_small", "_law_places", "_law_rows", "_law_thing"]) (sc := defScope s__law_places_right) (by decide +kernel)) (fun _ _ _ _ _ => (pg_name (i := 6) sc__law_places_right.nd rfl (Or.inl rfl))) (fun _ _ _ _ _ => pts_nil) (fun _ _ _ _ _ => (pe_tup (pa_cons pe_int (pa_cons (pv 6) pa_nil)))))) (pe_lst (pa_cons (pe_tup (pa_cons pe_int (pa_cons pe_int pa_nil))) (pa_cons (pe_tup (pa_cons pe_int (pa_cons (pe_op op_add pe_int (pv 1)) pa_nil))) pa_nil)))))
      (pss_cons (ps_if (pt_not (pt_val (Rh.pe_dfn D__law_all hr (by decide) (by rfl) pass0 (pa_cons (pe_glob (v := .ref f__law_with_square) (by rfl) D__law_with_square.gl rfl) (pa_cons (pv 3) (pa_cons (pv 4) (pa_cons (pe_ix (Rh.k_ixl K rfl) (pv 2) pe_int (fun _ _ => rfl)) pa_nil)))))))
        (pss_one (ps_ret pe_bl)) pss_nil)
      (pss_cons (ps_set (i := 5) sc__law_places_right.nd rfl (Or.inl rfl) (pe_op op_cat (pe_lc (own := [("_law_thing", 6)]) (g := (gName 6)) (tt := tYes)  (by rfl) sc__law_places_right.nd (pi_list (pe_op op_cat (pe_slice (Rh.k_sll K rfl) (pv 0) po_none (po_some pe_int)) (pe_lst (pa_cons (pe_un un_neg pe_int) (pa_cons (pe_op op_sub (pe_un un_neg pe_int) (pv 1)) (pa_cons pe_int (pa_cons (pe_op op_add pe_int (pv 1)) (pa_cons pe_int pa_nil)))))))) (blkOk_by (N := ["_law_strange", "_law_far", "_law_due", "_law_small", "_law_places", "_law_rows", "_law_thing"]) (sc := defScope s__law_places_right) (by decide +kernel)) (fun _ _ _ _ _ => (pg_name (i := 6) sc__law_places_right.nd rfl (Or.inl rfl))) (fun _ _ _ _ _ => pts_nil) (fun _ _ _ _ _ => (pe_tup (pa_cons pe_int (pa_cons (pv 6) pa_nil))))) (pe_lst (pa_cons (pe_tup (pa_cons pe_int (pa_cons pe_int pa_nil))) (pa_cons (pe_tup (pa_cons (pe_op op_add pe_int (pv 1)) (pa_cons pe_int pa_nil))) (pa_cons (pe_tup (pa_cons pe_int (pa_cons pe_int pa_nil))) pa_nil))))))
      (pss_cons (ps_if (pt_not (pt_val (Rh.pe_dfn D__law_all hr (by decide) (by rfl) pass0 (pa_cons (pe_glob (v := .ref f__law_with_row) (by rfl) D__law_with_row.gl rfl) (pa_cons (pe_lst (pa_cons pe_int (pa_cons pe_int (pa_cons pe_int (pa_cons pe_int (pa_cons pe_int pa_nil)))))) (pa_cons (pv 5) (pa_cons (pe_ix (Rh.k_ixl K rfl) (pv 2) pe_int (fun _ _ => rfl)) pa_nil)))))))
        (pss_one (ps_ret pe_bl)) pss_nil)
      (pss_one (ps_ret pe_bl)))))))), ?_⟩
    show (_ : TS) _ [some (.ref s), some (.int far), some (.ref d), none, none, none, none] H
    obtain ⟨k, hk⟩ : ∃ k : Nat, k = (far % 5).toNat := ⟨_, rfl⟩
    have hk5 : k < 5 := by omega
    refine q_asgL (xs := (smallR k).map V.int) (el_as (el_catNN (el_lst (ea_two ev_c ev_c) (Nat.le_of_ble_eq_true rfl)) (el_repN (k := k) (el_lst (ea_one ev_c) (Nat.le_of_ble_eq_true rfl)) (ev_mod (ev_var rfl) ev_c (by decide)) (by omega) hk.symm (by show 1 * _ ≤ _; omega)) (by rw [rep_flat, List.length_map, List.length_replicate]; show 2 + _ ≤ _; omega)) (by rw [rep_flat, smallR, List.map_append]; rfl)) fun p H1 hp e1 h1 => ?_
    have g1 : GoodH K H1 (.ref p) (smallR k) := ⟨p, rfl, sq_map h1, smallR_heap hk5, by rw [smallR_len]; omega⟩
    have hs1 := e1 _ _ hs
    have ho1 : ∀ x ∈ xs.take 7, Odd H1 x := fun x hx => mo_odd _ _ _ e1 (ho x hx)
    have hd1 := hd.ex e1
    have len1 : ((smallR k).length : Int) = 2 + (k : Int) := by rw [smallR_len]; omega
    refine q_asgS (G := Lst Rh.any (AllG (Pair fun r s => placeB (smallR k) r s = false) 11)) (es_any (es_lc (n := 11) (G1 := KdR fun v => placeB (smallR k) v (.int 0) = false) Pair.mo mo_kdr Pair.st (es_cat (n := 7) (m := 4) mo_kdr (es_seven (ev_var rfl) hs1 hl ho1 (fun v hv => place_r hv) ev_c) (es_lstA (n := 4) mo_kdr (esp_cons mo_kdr (es_int (ev_neg ev_c) (place_rI (.inl (by omega)))) (esp_cons mo_kdr (es_int (ev_sub (ev_neg ev_c) (ev_var rfl)) (place_rI (.inl (by omega)))) (esp_cons mo_kdr (es_int (ev_lenL (ev_var rfl) (sq_map h1)) (place_rI (.inr (by omega)))) (esp_cons mo_kdr (es_int (ev_add (ev_lenL (ev_var rfl) (sq_map h1)) (ev_var rfl)) (place_rI (.inr (by omega)))) esp_nil)))) (by decide)) (by decide)) (by decide) (fun _ => rfl) fun H2 x e2 hx => es_pair (ev_var rfl) ev_c hx.1 kd_int hx.2)) fun v H2 e2 w => ?_
    obtain ⟨b, ys, rfl, hb⟩ := w
    have w : Lst Rh.any (AllG (Pair fun r s => placeB (smallR k) r s = false) 11) H2 (.ref b) := ⟨b, ys, rfl, hb⟩
    have hs2 := e2 _ _ hs1
    have ho2 : ∀ x ∈ xs.take 7, Odd H2 x := fun x hx => mo_odd _ _ _ e2 (ho1 x hx)
    have hd2 := hd1.ex e2
    have pm := Pair.mo (R := fun r s => placeB (smallR k) r s = false)
    refine q_asgS (G := Lst Rh.any (AllG (Pair fun r s => placeB (smallR k) r s = false) 24)) (es_any (es_cat (n := 22) (m := 2) pm (es_cat (n := 11) (m := 11) pm (es_of (ev_var rfl) fun H3 e3 => Lst.mo (AllG.mo pm) _ _ _ e3 w) (es_lc (n := 11) (G1 := KdR fun v => placeB (smallR k) (.int 0) v = false) Pair.mo mo_kdr Pair.st (es_cat (n := 7) (m := 4) mo_kdr (es_seven (ev_var rfl) hs2 hl ho2 (fun v hv => place_s hv) ev_c) (es_lstA (n := 4) mo_kdr (esp_cons mo_kdr (es_int (ev_neg ev_c) (place_sI (.inl (by omega)))) (esp_cons mo_kdr (es_int (ev_sub (ev_neg ev_c) (ev_var rfl)) (place_sI (.inl (by omega)))) (esp_cons mo_kdr (es_int ev_c (place_sI (.inr (by show (3 : Int) ≤ 3; omega)))) (esp_cons mo_kdr (es_int (ev_add ev_c (ev_var rfl)) (place_sI (.inr (by show (3 : Int) ≤ 3 + far; omega)))) esp_nil)))) (by decide)) (by decide)) (by decide) (fun _ => rfl) fun H3 x e3 hx => es_pair ev_c (ev_var rfl) kd_int hx.1 hx.2) (by decide)) (es_lstA (n := 2) pm (esp_cons pm (es_pair ev_c ev_c kd_int kd_int (place_sI (.inr (by show (1 : Int) ≤ 1; omega)))) (esp_cons pm (es_pair ev_c (ev_add ev_c (ev_var rfl)) kd_int kd_int (place_sI (.inr (by show (1 : Int) ≤ 2 + far; omega)))) esp_nil)) (by decide)) (by decide))) fun v H3 e3 w3 => ?_
    obtain ⟨b3, ys3, rfl, hb3⟩ := w3
    have w3 : Lst Rh.any (AllG (Pair fun r s => placeB (smallR k) r s = false) 24) H3 (.ref b3) := ⟨b3, ys3, rfl, hb3⟩
    have g3 := g1.ex (e2.trans e3)
    have hs3 := e3 _ _ hs2
    have ho3 : ∀ x ∈ xs.take 7, Odd H3 x := fun x hx => mo_odd _ _ _ e3 (ho2 x hx)
    have hd3 := hd2.ex e3
    obtain ⟨c, hc, hcv⟩ := ev_due (K := K) (j := 2) hd3 (by decide) (ev_var (σ := [some (.ref s), some (.int far), some (.ref d), some (.ref p), some (.ref b3), none, none]) (i := 2) rfl) (ev_c (v := .int 2))
    refine q_when (b := false) (et_is (et_not (et_B (ev_all (X := fun H v => GoodH K H v (smallR k)) mo_good pm (Or.inr (Or.inr (Or.inl ⟨rfl, rfl⟩))) (j := 2) (n := 24) (by decide) (by decide) ev_c (es_of (ev_var rfl) fun H4 e4 => g3.ex e4) (es_of (ev_var rfl) fun H4 e4 => Lst.mo (AllG.mo pm) _ _ _ e4 w3) (fun _ _ => ask_square) hcv hc))) rfl) (fun h => nomatch h) fun _ H4 e4 => ?_
    have hs4 := e4 _ _ hs3
    have ho4 : ∀ x ∈ xs.take 7, Odd H4 x := fun x hx => mo_odd _ _ _ e4 (ho3 x hx)
    have hd4 := hd3.ex e4
    have rm := Pair.mo (R := fun l r => ∃ i, l = .int i ∧ 1 ≤ i ∧ NoRim row5 i r)
    refine q_asgS (G := Lst Rh.any (AllG (Pair fun l r => ∃ i, l = .int i ∧ 1 ≤ i ∧ NoRim row5 i r) 15)) (es_any (es_cat (n := 12) (m := 3) rm (es_lc (n := 12) (G1 := KdR fun v => NoRim row5 2 v) Pair.mo mo_kdr Pair.st (es_cat (n := 7) (m := 5) mo_kdr (es_seven (ev_var rfl) hs4 hl ho4 (fun v hv => norim_odd hv) ev_c) (es_lstA (n := 5) mo_kdr (esp_cons mo_kdr (es_int (ev_neg ev_c) (norim_int (by rw [row5_two]; decide))) (esp_cons mo_kdr (es_int (ev_sub (ev_neg ev_c) (ev_var rfl)) (norim_int (by rw [row5_two]; simp only [List.mem_cons, List.not_mem_nil, or_false]; omega))) (esp_cons mo_kdr (es_int ev_c (norim_int (by rw [row5_two]; decide))) (esp_cons mo_kdr (es_int (ev_add ev_c (ev_var rfl)) (norim_int (by rw [row5_two]; simp only [List.mem_cons, List.not_mem_nil, or_false]; omega))) (esp_cons mo_kdr (es_int ev_c (norim_int (by rw [row5_two]; decide))) esp_nil))))) (by decide)) (by decide)) (by decide) (fun _ => rfl) fun H5 x e5 hx => es_pair ev_c (ev_var rfl) kd_int hx.1 ⟨2, rfl, by decide, hx.2⟩) (es_lstA (n := 3) rm (esp_cons rm (es_pair ev_c ev_c kd_int kd_int ⟨1, rfl, by decide, norim_int (by rw [row5_one]; decide)⟩) (esp_cons rm (es_pair (ev_add ev_c (ev_var rfl)) ev_c kd_int kd_int ⟨8 + far, rfl, by omega, norim_int (row5_far (by omega))⟩) (esp_cons rm (es_pair ev_c ev_c kd_int kd_int ⟨4, rfl, by decide, norim_int (by rw [row5_four]; decide)⟩) esp_nil))) (by decide)) (by decide))) fun v H5 e5 w5 => ?_
    obtain ⟨b5, ys5, rfl, hb5⟩ := w5
    have w5 : Lst Rh.any (AllG (Pair fun l r => ∃ i, l = .int i ∧ 1 ≤ i ∧ NoRim row5 i r) 15) H5 (.ref b5) := ⟨b5, ys5, rfl, hb5⟩
    have hd5 := hd4.ex e5
    obtain ⟨c5, hc5, hcv5⟩ := ev_due (K := K) (j := 2) hd5 (by decide) (ev_var (σ := [some (.ref s), some (.int far), some (.ref d), some (.ref p), some (.ref b3), some (.ref b5), none]) (i := 2) rfl) (ev_c (v := .int 2))
    refine q_when (b := false) (et_is (et_not (et_B (ev_all (X := fun H v => GoodH K H v row5) mo_good rm (Or.inr (Or.inr (Or.inr (Or.inl ⟨rfl, rfl⟩)))) (j := 2) (n := 15) (by decide) (by decide) ev_c (es_good (el_lst (ea_cons ev_c (ea_cons ev_c (ea_three ev_c ev_c ev_c))) (Nat.le_of_ble_eq_true rfl)) row5_heap (by decide)) (es_of (ev_var rfl) fun H6 e6 => Lst.mo (AllG.mo rm) _ _ _ e6 w5) (fun _ _ => ask_row) hcv5 hc5))) rfl) (fun h => nomatch h) fun _ H6 e6 => ?_
    exact s_ret ev_c fun H7 e7 => RetV.go q ((((((e1.trans e2).trans e3).trans e4).trans e5).trans e6).trans e7)
theorem ok__law_parts_right {f : Addr} {fd : FuncData} (F : Fun K "_law_parts_right" "_law_parts_right" s__law_parts_right f fd) (g : mg "_law_parts_right" = some (.ref f)) (B : Bl mg)
    {Y : Nat → Addr} {YH : Addr} (Z : Errs K mg Y YH)
    {C CA : Addr} (T : GoneT K mg C CA)
    {f__law_with_heap : Addr} {fd__law_with_heap : FuncData} (D__law_with_heap : Dfn P w K mg base (L2.CX P w) 6 "_law_with_heap" f__law_with_heap fd__law_with_heap ["_law_door", "_law_heap_here"] (sp5_with_heap K Y))
    {f__law_with_length : Addr} {fd__law_with_length : FuncData} (D__law_with_length : Dfn P w K mg base (L2.CX P w) 6 "_law_with_length" f__law_with_length fd__law_with_length ["_law_door", "_law_length"] (sp5_with_length Y))
    {f__law_with_square : Addr} {fd__law_with_square : FuncData} (D__law_with_square : Dfn P w K mg base (L2.CX P w) 5 "_law_with_square" f__law_with_square fd__law_with_square ["_law_heap_here", "_law_pair"] (sp5_with_square K Y))
    {f__law_with_row : Addr} {fd__law_with_row : FuncData} (D__law_with_row : Dfn P w K mg base (L2.CX P w) 5 "_law_with_row" f__law_with_row fd__law_with_row ["_law_heap_here", "_law_pair"] (sp5_with_row K Y))
    {f__law_with_parts : Addr} {fd__law_with_parts : FuncData} (D__law_with_parts : Dfn P w K mg base (L2.CX P w) 5 "_law_with_parts" f__law_with_parts fd__law_with_parts ["_law_left", "_law_some"] (sp5_with_parts K Y))
    {f__law_too_many : Addr} {fd__law_too_many : FuncData} (D__law_too_many : Dfn P w K mg base (L2.CX P w) 6 "_law_too_many" f__law_too_many fd__law_too_many ["_law_heap_here", "_law_length"] (sp5_too_many K Y))
    {f__law_all : Addr} {fd__law_all : FuncData} (D__law_all : Dfn P w K mg base CX0 8 "_law_all" f__law_all fd__law_all ["_law_ask", "_law_one", "_law_things", "_law_due"] (sp5_all K Y (S6 K Y f__law_with_heap f__law_with_length f__law_with_square f__law_with_row f__law_with_parts f__law_too_many))) :
    Dfn P w K mg base CX0 9 "_law_parts_right" f fd ["_law_far", "_law_due"] (sp5_parts_right ) := by
  refine ⟨F.ok sc__law_parts_right (fun vs H Q E h => ?_) (fun cdv A outer s H vs Q E hr h => ?_), F.kp, F.binds (ps := ["_law_far", "_law_due"]) fun _ _ _ _ _ _ us hl => match us, hl with | [_, _], _ => rfl, g⟩
  · obtain ⟨far, d, rfl, hf, hd, q⟩ := h
    rfl
  · obtain ⟨far, d, rfl, hf, hd, q⟩ := h
    refine ⟨_, (pss_cons (ps_set (i := 2) sc__law_parts_right.nd rfl (Or.inl rfl) (pe_lst (pa_cons pe_non (pa_cons (pe_tup pa_nil) (pa_cons pe_str (pa_cons pe_dnewK (pa_cons pe_int (pa_cons (pe_lst pa_nil) (pa_cons (pe_lst (pa_cons (pe_lst pa_nil) pa_nil)) (pa_cons (pe_lst (pa_cons (pe_lst pa_nil) (pa_cons (pe_lst pa_nil) (pa_cons (pe_lst pa_nil) pa_nil)))) (pa_cons (pe_lst (pa_cons (pe_lst pa_nil) (pa_cons pe_non pa_nil))) (pa_cons (pe_lst (pa_cons (pe_tup (pa_cons pe_int pa_nil)) (pa_cons (pe_lst pa_nil) pa_nil))) (pa_cons (pe_lst (pa_cons (pe_lst (pa_cons pe_int pa_nil)) (pa_cons (pe_lst pa_nil) pa_nil))) (pa_cons (pe_lst (pa_cons (pe_lst (pa_cons pe_int (pa_cons pe_int pa_nil))) (pa_cons (pe_lst pa_nil) pa_nil))) pa_nil))))))))))))))
      (pss_cons (ps_expr (pe_bm PySem.F.plainAttrs_list PySem.F.slot_list_append PySem.F.type_list_append mt_append (pv 2) (pa_cons (pe_lst (pa_cons (pe_lst pa_nil) (pa_cons (pe_lst (pa_cons pe_bl pa_nil)) pa_nil))) pa_nil)))
      (pss_cons (ps_for PassesOwn.never rfl (pi_tup (pe_tup (pa_cons (pe_lst pa_nil) (pa_cons (pe_lst (pa_cons pe_int pa_nil)) (pa_cons (pe_lst (pa_cons pe_int (pa_cons pe_int pa_nil))) pa_nil))))) (pg_name (i := 3) sc__law_parts_right.nd rfl (Or.inl rfl))
        (pss_one (ps_if (pt_not (pt_val (Rh.pe_dfn D__law_all hr (by decide) (by rfl) pass0 (pa_cons (pe_glob (v := .ref f__law_with_parts) (by rfl) D__law_with_parts.gl rfl) (pa_cons (pv 3) (pa_cons (pe_op op_cat (pv 2) (pe_lst (pa_cons (pe_lst (pa_cons (pe_lst (pa_cons (pe_op op_sub (pe_un un_neg pe_int) (pv 0)) pa_nil)) (pa_cons (pe_lst pa_nil) pa_nil))) pa_nil))) (pa_cons (pe_ix (Rh.k_ixl K rfl) (pv 1) pe_int (fun _ _ => rfl)) pa_nil)))))))
        (pss_one (ps_ret pe_bl)) pss_nil)))
      (pss_cons (ps_for PassesOwn.never rfl (pi_tup (pe_tup (pa_cons (pe_lst (pa_cons pe_int pa_nil)) (pa_cons (pe_lst (pa_cons pe_int (pa_cons pe_int pa_nil))) (pa_cons (pe_lst (pa_cons pe_int pa_nil)) (pa_cons (pe_lst (pa_cons pe_int (pa_cons pe_int pa_nil))) (pa_cons (pe_lst (pa_cons (pe_op op_add pe_int (pe_op Rh.op_mulO pe_int (pv 0))) pa_nil)) pa_nil))))))) (pg_name (i := 3) sc__law_parts_right.nd rfl (Or.inl rfl))
        (pss_one (ps_if (pt_not (pt_val (Rh.pe_dfn D__law_all hr (by decide) (by rfl) pass0 (pa_cons (pe_glob (v := .ref f__law_with_parts) (by rfl) D__law_with_parts.gl rfl) (pa_cons (pv 3) (pa_cons (pe_lst (pa_cons (pe_lst (pa_cons (pe_lst pa_nil) (pa_cons (pe_lst pa_nil) pa_nil))) (pa_cons (pe_lst (pa_cons (pe_lst (pa_cons pe_int pa_nil)) (pa_cons (pe_lst (pa_cons pe_int pa_nil)) pa_nil))) pa_nil))) (pa_cons (pe_ix (Rh.k_ixl K rfl) (pv 1) pe_int (fun _ _ => rfl)) pa_nil)))))))
        (pss_one (ps_ret pe_bl)) pss_nil)))
      (pss_one (ps_ret pe_bl)))))), ?_⟩
    show (_ : TS) _ [some (.int far), some (.ref d), none, none] H
    have pm := mo_pb (K := K)
    have om := mo_ok (K := K)
    have pn : ∀ {σ : L2.St} {H : Hp}, EvL (tLst tNil) σ H [] := el_lst ea_nil (by decide)
    have hn : ∀ {σ : L2.St} {H : Hp}, EvS (tLst tNil) σ H (HJ K true) := hj_L pn kds_nil (by decide) (by decide)
    have kt : ∀ {H : Hp} {v : V}, True → Kd H v → Kd H v := fun _ k => k
    refine q_asgSP (P := AllG (fun H v => PartsBad K H v 2) 12) (esp_cons pm (pb_c ev_c .non) (esp_cons pm (pb_k (es_imp (es_tupA mo_true esp_nil (by decide)) fun _ _ _ => tup_kdn)) (esp_cons pm (pb_c ev_c (.str _)) (esp_cons pm (pb_k es_dic) (esp_cons pm (pb_c ev_c (.int 5)) (esp_cons pm (pb_len (es_lstA mo_true esp_nil (by decide)) (by decide)) (esp_cons pm (pb_len (es_lstA mo_true (esp_cons mo_true (es_tr hn) esp_nil) (by decide)) (by decide)) (esp_cons pm (pb_len (es_lstA mo_true (esp_cons mo_true (es_tr hn) (esp_cons mo_true (es_tr hn) (esp_cons mo_true (es_tr hn) esp_nil))) (by decide)) (by decide)) (esp_cons pm (pb_two hn (hj_k (es_of ev_c fun _ _ => .non)) rfl) (esp_cons pm (pb_two (hj_k (es_imp (es_tupA mo_kd (esp_cons mo_kd (es_kd ev_c kd_int) esp_nil) (by decide)) fun _ _ _ => tup_kdn)) hn rfl) (esp_cons pm (pb_two (hj_L (el_lst (ea_one ev_c) (by decide)) (kds_cons kd_int kds_nil) (by decide) (show _ = false by decide)) hn rfl) (esp_cons pm (pb_two (hj_L (el_lst (ea_two ev_c ev_c) (by decide)) (kds_cons kd_int (kds_cons kd_int kds_nil)) (by decide) (show _ = false by decide)) hn rfl) esp_nil)))))))))))) (fun _ vs w => by rw [w.1]; decide) fun p vs H1 H2 e1 hp e2 h2 hv => ?_
    have hd2 := hd.ex (e1.trans e2)
    refine q_appS h2 (ev_var rfl) (es_two_at h2 pn (el_lst (ea_one ev_c) (by decide))) (by rw [hv.1]; decide) fun v H3 e3 hw => ?_
    obtain ⟨c, a, b, rfl, nc, na, nb, hc, ha, hb⟩ := hw
    obtain ⟨H4, hH4⟩ : ∃ H4, H4 = upd H3 p (.lst (vs ++ [.ref c])) := ⟨_, rfl⟩
    rw [← hH4]
    have e14 : Ex H1 H4 := by rw [hH4]; exact (e2.trans e3).mut hp
    have e4 : Ex H H4 := e1.trans e14
    have hc4 : H4 c = some (.lst [.ref a, .ref b]) := by rw [hH4, upd_ne nc]; exact hc
    have ha4 : H4 a = some (.lst []) := by rw [hH4, upd_ne na]; exact ha
    have hb4 : H4 b = some (.lst [.bl true]) := by rw [hH4, upd_ne nb]; exact hb
    have hp4 : H4 p = some (.lst (vs ++ [.ref c])) := by rw [hH4, upd_same]
    clear hH4
    have w : Lst Rh.any (AllG (fun H v => PartsBad K H v 2) 13) H4 (.ref p) := by
      refine ⟨p, _, rfl, trivial, hp4, by rw [List.length_append, hv.1]; rfl, fun x hx => ?_⟩
      rcases List.mem_append.mp hx with hx | hx
      · exact pm _ _ _ e14 (hv.2 x hx)
      · have : x = .ref c := by simpa using hx
        rw [this]
        exact .inr ⟨c, _, rfl, sq_of hc4, Nat.le_of_ble_eq_true rfl, .inr ⟨[true, false], .cons (HeapJ.lst (xs := []) (sq_of ha4) kds_nil (by decide)) (.cons (HeapJ.lst (xs := [.bl true]) (sq_of hb4) (kds_cons (.inl (.bl true)) kds_nil) (by decide)) .nil), rfl⟩⟩
    have hd4 := hd.ex e4
    refine q_forSP (n := 3) (G := GoodS K fun _ => True) mo_goodS (esp_cons mo_goodS (es_goodS (ns := []) pn isHeap_nil (by decide) trivial) (esp_cons mo_goodS (es_goodS (ns := [1]) (el_lst (ea_one ev_c) (by decide)) (isHeap_dec (by decide) (by decide)) (by decide) trivial) (esp_cons mo_goodS (es_goodS (ns := [2, 1]) (el_lst (ea_two ev_c ev_c) (by decide)) (isHeap_dec (by decide) (by decide)) (by decide) trivial) esp_nil))) (by decide) (fun H0 σ' H' => ∃ y3, σ' = [some (.int far), some (.ref d), some (.ref p), y3] ∧ Ex H0 H') (fun H0 σ' H' w => by obtain ⟨_, _, e⟩ := w; exact e) (fun H5 e5 => ⟨none, rfl, Ex.refl H5⟩) (fun H0 x σ' H' hx e0 w2 => ?_) fun H0 σ' H' e0 w2 => ?_
    · obtain ⟨y3, rfl, e⟩ := w2
      have e5 := e0.trans e
      obtain ⟨u, hu, huv⟩ := ev_due (K := K) (j := 3) (hd4.ex e5) (by decide) (ev_var (σ := [some (.int far), some (.ref d), some (.ref p), some x]) (i := 1) rfl) (ev_c (v := .int 3))
      refine s_when (b := false) (et_is (et_not (et_B (ev_all (X := GoodS K fun _ => True) mo_goodS pm (Or.inr (Or.inr (Or.inr (Or.inr (Or.inl ⟨rfl, rfl⟩))))) (j := 3) (n := 14) (by decide) (by decide) ev_c (es_of (ev_var rfl) fun H6 e6 => mo_goodS _ _ _ (e.trans e6) hx) (es_cat (n := 13) (m := 1) pm (es_of (ev_var rfl) fun H6 e6 => Lst.mo (AllG.mo pm) _ _ _ (e5.trans e6) w) (es_lstA (n := 1) pm (esp_cons pm (pb_two (hj_L (el_lst (ea_one (ev_sub (ev_neg ev_c) (ev_var rfl))) (Nat.le_of_ble_eq_true rfl)) (kds_cons kd_int kds_nil) (Nat.le_of_ble_eq_true rfl) (heap_bad (v := .int (-1 - far)) List.mem_cons_self (decide_eq_false (by omega)))) hn rfl) esp_nil) (by decide)) (by decide)) (fun _ _ => ask_bad) huv hu))) rfl) (fun h => nomatch h) fun _ H6 e6 => ?_
      exact ⟨_, rfl, e.trans e6⟩
    obtain ⟨y3, rfl, e⟩ := w2
    have e5 := e4.trans (e0.trans e)
    have hd5 := hd.ex e5
    clear w hd4 e4 e14 hc4 ha4 hb4 hp4
    have r1 : rimsH [1, 1] 2 ≠ [] := by decide
    have r2 : rimsH [4, 4] 2 ≠ [] := by decide
    refine q_forSP (n := 5) (G := GoodS K fun ns => rimsH ns 2 ≠ []) mo_goodS (esp_cons mo_goodS (es_goodS (ns := [2]) (el_lst (ea_one ev_c) (by decide)) (isHeap_one (by decide)) (by decide) (rim_one (by decide) (by decide))) (esp_cons mo_goodS (es_goodS (ns := [1, 1]) (el_lst (ea_two ev_c ev_c) (by decide)) (isHeap_dec (by decide) (by decide)) (by decide) r1) (esp_cons mo_goodS (es_goodS (ns := [3]) (el_lst (ea_one ev_c) (by decide)) (isHeap_one (by decide)) (by decide) (rim_one (by decide) (by decide))) (esp_cons mo_goodS (es_goodS (ns := [4, 4]) (el_lst (ea_two ev_c ev_c) (by decide)) (isHeap_dec (by decide) (by decide)) (by decide) r2) (esp_cons mo_goodS (es_goodS (ns := [2 + 2 * far]) (el_lst (ea_one (ev_add ev_c (ev_mulW ev_c (ev_var rfl) (mul_small (by decide))))) (Nat.le_of_ble_eq_true rfl)) (isHeap_one (by omega)) (Nat.le_of_ble_eq_true rfl) (rim_one (by omega) (by decide))) esp_nil))))) (by decide) (fun H0 σ' H' => ∃ y3, σ' = [some (.int far), some (.ref d), some (.ref p), y3] ∧ Ex H0 H') (fun H0 σ' H' w => by obtain ⟨_, _, e⟩ := w; exact e) (fun H5 e5 => ⟨_, rfl, Ex.refl H5⟩) (fun H0 x σ' H'' hx e0 w2 => ?_) fun H0 σ' H'' e0 w2 => ?_
    · obtain ⟨y3, rfl, e6⟩ := w2
      have e7 := e0.trans e6
      obtain ⟨u, hu, huv⟩ := ev_due (K := K) (j := 3) (hd5.ex e7) (by decide) (ev_var (σ := [some (.int far), some (.ref d), some (.ref p), some x]) (i := 1) rfl) (ev_c (v := .int 3))
      have h1 : ∀ {σ : L2.St} {H : Hp}, EvS (tLst (tCons (tC (.int 1)) tNil)) σ H (HJ K true) := hj_L (el_lst (ea_one ev_c) (by decide)) (kds_cons kd_int kds_nil) (by decide) (by decide)
      refine s_when (b := false) (et_is (et_not (et_B (ev_all (X := GoodS K fun ns => rimsH ns 2 ≠ []) mo_goodS om (Or.inr (Or.inr (Or.inr (Or.inr (Or.inl ⟨rfl, rfl⟩))))) (j := 3) (n := 2) (by decide) (by decide) ev_c (es_of (ev_var rfl) fun H6 e8 => mo_goodS _ _ _ (e6.trans e8) hx) (es_lstA (n := 2) om (esp_cons om (ok_two hn hn) (esp_cons om (ok_two h1 h1) esp_nil)) (by decide)) (fun _ _ => ask_ok) huv hu))) rfl) (fun h => nomatch h) fun _ H6 e8 => ?_
      exact ⟨_, rfl, e6.trans e8⟩
    obtain ⟨y3, rfl, e6⟩ := w2
    exact s_ret ev_c fun H7 e7 => RetV.go q (e5.trans ((e0.trans e6).trans e7))
theorem ok_law {f : Addr} {fd : FuncData} (F : Fun K "law" "law" s_law f fd) (g : mg "law" = some (.ref f)) (B : Bl mg)
    {Y : Nat → Addr} {YH : Addr} (Z : Errs K mg Y YH)
    {C CA : Addr} (T : GoneT K mg C CA)
    {f__law_cell_at : Addr} {fd__law_cell_at : FuncData} (D__law_cell_at : Dfn P w K mg base CX0 1 "_law_cell_at" f__law_cell_at fd__law_cell_at ["_law_script", "_law_k"] (sp_l_cell_at K))
    {f__law_heap : Addr} {fd__law_heap : FuncData} (D__law_heap : Dfn P w K mg base CX0 3 "_law_heap" f__law_heap fd__law_heap ["_law_script", "_law_by"] (sp_l_heap K))
    {f__law_places_right : Addr} {fd__law_places_right : FuncData} (D__law_places_right : Dfn P w K mg base CX0 9 "_law_places_right" f__law_places_right fd__law_places_right ["_law_strange", "_law_far", "_law_due"] (sp5_places ))
    {f__law_parts_right : Addr} {fd__law_parts_right : FuncData} (D__law_parts_right : Dfn P w K mg base CX0 9 "_law_parts_right" f__law_parts_right fd__law_parts_right ["_law_far", "_law_due"] (sp5_parts_right ))
    {f_gone : Addr} {fd_gone : FuncData} (D_gone : Dfn P w K mg base (L2.CX P w) 5 "gone" f_gone fd_gone ["heap", "length"] (sp5_gone K Y C))
    {f_parts : Addr} {fd_parts : FuncData} (D_parts : Dfn P w K mg base (L2.CX P w) 4 "parts" f_parts fd_parts ["heap", "length"] (sp5_parts K Y))
    {f__law_with_heap : Addr} {fd__law_with_heap : FuncData} (D__law_with_heap : Dfn P w K mg base (L2.CX P w) 6 "_law_with_heap" f__law_with_heap fd__law_with_heap ["_law_door", "_law_heap_here"] (sp5_with_heap K Y))
    {f__law_with_length : Addr} {fd__law_with_length : FuncData} (D__law_with_length : Dfn P w K mg base (L2.CX P w) 6 "_law_with_length" f__law_with_length fd__law_with_length ["_law_door", "_law_length"] (sp5_with_length Y))
    {f__law_with_square : Addr} {fd__law_with_square : FuncData} (D__law_with_square : Dfn P w K mg base (L2.CX P w) 5 "_law_with_square" f__law_with_square fd__law_with_square ["_law_heap_here", "_law_pair"] (sp5_with_square K Y))
    {f__law_with_row : Addr} {fd__law_with_row : FuncData} (D__law_with_row : Dfn P w K mg base (L2.CX P w) 5 "_law_with_row" f__law_with_row fd__law_with_row ["_law_heap_here", "_law_pair"] (sp5_with_row K Y))
    {f__law_with_parts : Addr} {fd__law_with_parts : FuncData} (D__law_with_parts : Dfn P w K mg base (L2.CX P w) 5 "_law_with_parts" f__law_with_parts fd__law_with_parts ["_law_left", "_law_some"] (sp5_with_parts K Y))
    {f__law_too_many : Addr} {fd__law_too_many : FuncData} (D__law_too_many : Dfn P w K mg base (L2.CX P w) 6 "_law_too_many" f__law_too_many fd__law_too_many ["_law_heap_here", "_law_length"] (sp5_too_many K Y))
    {f__law_all : Addr} {fd__law_all : FuncData} (D__law_all : Dfn P w K mg base CX0 8 "_law_all" f__law_all fd__law_all ["_law_ask", "_law_one", "_law_things", "_law_due"] (sp5_all K Y (S6 K Y f__law_with_heap f__law_with_length f__law_with_square f__law_with_row f__law_with_parts f__law_too_many))) :
    Dfn P w K mg base CX0 10 "law" f fd ["_law_script"] (sp_law K) := by
  refine ⟨F.ok sc_law (fun vs H Q E h => ?_) (fun cdv A outer s H vs Q E hr h => ?_), F.kp, F.binds (ps := ["_law_script"]) fun _ _ _ _ _ _ us hl => match us, hl with | [_], _ => rfl, g⟩
  · obtain ⟨a, ns, rfl, hS, hp, q⟩ := h
    rfl
  · obtain ⟨a, ns, rfl, hS, hp, q⟩ := h
    refine ⟨_, (pss_cons (ps_set (i := 1) sc_law.nd rfl (Or.inl rfl) (pe_op op_mod (Rh.pe_dfn D__law_cell_at hr (by decide) (by rfl) pass0 (pa_cons (pv 0) (pa_cons pe_int pa_nil))) (pe_op op_pow pe_int pe_int)))
      (pss_cons (ps_set (i := 2) sc_law.nd rfl (Or.inl rfl) (pe_lst pa_nil))
      (pss_cons (ps_for PassesOwn.never rfl (pi_range1 (by rfl) B.range (pa_cons pe_int pa_nil)) (pg_name (i := 3) sc_law.nd rfl (Or.inl rfl))
        (pss_one (ps_expr (pe_bm PySem.F.plainAttrs_list PySem.F.slot_list_append PySem.F.type_list_append mt_append (pv 2) (pa_cons (pe_lst (pa_cons (pe_cmpR op_eq (pv 3) pe_int (nomark _)) (pa_cons (pe_cmpR op_eq (pv 3) pe_int (nomark _)) (pa_cons (pe_cmpR op_eq (pv 3) pe_int (nomark _)) (pa_cons (pe_cmpR op_eq (pv 3) pe_int (nomark _)) (pa_cons (pe_cmpR op_eq (pv 3) pe_int (nomark _)) (pa_cons pe_bl pa_nil))))))) pa_nil)))))
      (pss_cons (ps_set (i := 4) sc_law.nd rfl (Or.inl rfl) (Rh.pe_dfn D__law_heap hr (by decide) (by rfl) pass0 (pa_cons (pv 0) (pa_cons pe_int pa_nil))))
      (pss_cons (ps_set (i := 5) sc_law.nd rfl (Or.inl rfl) (pe_callTy (Rh.k_list K rfl) (by rfl) B.list boot_list (pa_cons (pv 4) pa_nil)))
      (pss_cons (ps_set (i := 6) sc_law.nd rfl (Or.inl rfl) (pe_lst (pa_cons pe_non (pa_cons (pe_tup pa_nil) (pa_cons (pe_tup (pa_cons pe_int pa_nil)) (pa_cons pe_str (pa_cons pe_dnewK (pa_cons pe_int (pa_cons (pe_lst (pa_cons pe_non pa_nil)) (pa_cons (pe_lst (pa_cons pe_int pa_nil)) (pa_cons (pe_lst (pa_cons pe_int (pa_cons pe_int pa_nil))) (pa_cons (pe_lst (pa_cons (pe_op op_sub (pe_un un_neg pe_int) (pv 1)) pa_nil)) (pa_cons (pe_lst (pa_cons pe_int (pa_cons pe_int pa_nil))) (pa_cons (pe_lst (pa_cons pe_int (pa_cons pe_int (pa_cons pe_int pa_nil)))) (pa_cons (pe_lst (pa_cons pe_bl pa_nil)) (pa_cons (pe_lst (pa_cons pe_str (pa_cons pe_int pa_nil))) (pa_cons (pe_lst (pa_cons pe_int (pa_cons (pe_lst (pa_cons pe_int pa_nil)) pa_nil))) pa_nil)))))))))))))))))
      (pss_cons (ps_for PassesOwn.never rfl (pi_range3 (by rfl) B.range (pa_cons pe_int (pa_cons (pe_callB (Rh.k_len K rfl) (by rfl) B.len PySem.boot_len (pa_cons (pv 4) pa_nil)) (pa_cons (pe_op op_add pe_int (pe_op op_fdivW (pe_callB (Rh.k_len K rfl) (by rfl) B.len PySem.boot_len (pa_cons (pv 4) pa_nil)) pe_int)) pa_nil)))) (pg_name (i := 7) sc_law.nd rfl (Or.inl rfl))
        (pss_one (ps_expr (pe_bm PySem.F.plainAttrs_list PySem.F.slot_list_append PySem.F.type_list_append mt_append (pv 6) (pa_cons (pe_op op_cat (pe_op op_cat (pe_slice (Rh.k_sll K rfl) (pv 4) po_none (po_some (pv 7))) (pe_lst (pa_cons (pe_ix (Rh.k_ixt K rfl) (pe_tup (pa_cons pe_non (pa_cons pe_str (pa_cons pe_bl (pa_cons (pe_lst (pa_cons pe_int pa_nil)) (pa_cons (pe_tup (pa_cons pe_int pa_nil)) (pa_cons pe_int (pa_cons (pe_op op_sub (pe_un un_neg pe_int) (pv 1)) pa_nil)))))))) (pe_op op_mod (pv 7) pe_int) (fun _ _ => rfl)) pa_nil))) (pe_slice (Rh.k_sll K rfl) (pv 4) (po_some (pe_op op_add (pv 7) pe_int)) po_none)) pa_nil)))))
      (pss_cons (ps_for PassesOwn.never rfl (pi_range1 (by rfl) B.range (pa_cons pe_int pa_nil)) (pg_name (i := 8) sc_law.nd rfl (Or.inl rfl))
        (pss_one (ps_if (pt_not (pt_val (Rh.pe_dfn D__law_all hr (by decide) (by rfl) pass0 (pa_cons (pe_glob (v := .ref f__law_with_heap) (by rfl) D__law_with_heap.gl rfl) (pa_cons (pv 8) (pa_cons (pv 6) (pa_cons (pe_ix (Rh.k_ixl K rfl) (pv 2) pe_int (fun _ _ => rfl)) pa_nil)))))))
        (pss_one (ps_ret pe_bl)) pss_nil)))
      (pss_cons (ps_set (i := 9) sc_law.nd rfl (Or.inl rfl) (pe_lst (pa_cons pe_non (pa_cons pe_str (pa_cons pe_bl (pa_cons pe_bl (pa_cons (pe_lst (pa_cons pe_int pa_nil)) (pa_cons (pe_tup (pa_cons pe_int pa_nil)) (pa_cons pe_dnewK (pa_cons pe_int (pa_cons (pe_un un_neg pe_int) (pa_cons (pe_op op_sub (pe_un un_neg pe_int) (pv 1)) pa_nil))))))))))))
      (pss_cons (ps_for PassesOwn.never rfl (pi_range1 (by rfl) B.range (pa_cons pe_int pa_nil)) (pg_name (i := 8) sc_law.nd rfl (Or.inl rfl))
        (pss_one (ps_if (pt_not (pt_val (Rh.pe_dfn D__law_all hr (by decide) (by rfl) pass0 (pa_cons (pe_glob (v := .ref f__law_with_length) (by rfl) D__law_with_length.gl rfl) (pa_cons (pv 8) (pa_cons (pv 9) (pa_cons (pe_ix (Rh.k_ixl K rfl) (pv 2) pe_int (fun _ _ => rfl)) pa_nil)))))))
        (pss_one (ps_ret pe_bl)) pss_nil)))
      (pss_cons (ps_if (pt_not (pt_val (Rh.pe_dfn D__law_all hr (by decide) (by rfl) pass0 (pa_cons (pe_glob (v := .ref f__law_with_length) (by rfl) D__law_with_length.gl rfl) (pa_cons pe_int (pa_cons (pe_lst (pa_cons pe_int (pa_cons (pe_op op_add pe_int (pv 1)) pa_nil))) (pa_cons (pe_ix (Rh.k_ixl K rfl) (pv 2) pe_int (fun _ _ => rfl)) pa_nil)))))))
        (pss_one (ps_ret pe_bl)) pss_nil)
      (pss_cons (ps_if (pt_not (pt_val (Rh.pe_dfn D__law_all hr (by decide) (by rfl) pass0 (pa_cons (pe_glob (v := .ref f__law_with_length) (by rfl) D__law_with_length.gl rfl) (pa_cons pe_int (pa_cons (pe_lst (pa_cons pe_int (pa_cons (pe_op op_add pe_int (pv 1)) pa_nil))) (pa_cons (pe_ix (Rh.k_ixl K rfl) (pv 2) pe_int (fun _ _ => rfl)) pa_nil)))))))
        (pss_one (ps_ret pe_bl)) pss_nil)
      (pss_cons (ps_if (PW.pt (pw_or (pt_not (pt_val (Rh.pe_dfn D__law_places_right hr (by decide) (by rfl) pass0 (pa_cons (pv 9) (pa_cons (pv 1) (pa_cons (pv 2) pa_nil)))))) (pw_or1 (pt_not (pt_val (Rh.pe_dfn D__law_parts_right hr (by decide) (by rfl) pass0 (pa_cons (pv 1) (pa_cons (pv 2) pa_nil))))))))
        (pss_one (ps_ret pe_bl)) pss_nil)
      (pss_cons (ps_for PassesOwn.never rfl (pi_tup (pe_tup (pa_cons pe_int (pa_cons pe_int pa_nil)))) (pg_name (i := 10) sc_law.nd rfl (Or.inl rfl))
        (pss_one (ps_if (pt_not (pt_val (Rh.pe_dfn D__law_all hr (by decide) (by rfl) pass0 (pa_cons (pe_glob (v := .ref f__law_too_many) (by rfl) D__law_too_many.gl rfl) (pa_cons (pe_lst (pa_cons (pe_op op_add (pe_op Rh.op_mulO pe_int (pv 10)) (pv 1)) pa_nil)) (pa_cons (pe_lst (pa_cons (pv 10) pa_nil)) (pa_cons (pe_ix (Rh.k_ixl K rfl) (pv 2) pe_int (fun _ _ => rfl)) pa_nil)))))))
        (pss_one (ps_ret pe_bl)) pss_nil)))
      (pss_one (ps_ret (pe_and (pe_cmpR (Rh.k_eqD K rfl hr.units) (pv 4) (pv 5) (nomark _)) (pe_and (pe_cmpR op_eq (pe_callB (Rh.k_len K rfl) (by rfl) B.len PySem.boot_len (pa_cons (pe_fld (Rh.pe_dfn D_gone hr (by decide) (by rfl) passL (pa_cons (pe_lst (pa_cons pe_int pa_nil)) (pa_cons pe_int pa_nil))) rfl) pa_nil)) pe_int (nomark _)) (pe_one (pe_cmpR (Rh.k_eqD K rfl hr.units) (Rh.pe_dfn D_parts hr (by decide) (by rfl) passL (pa_cons (pe_lst pa_nil) (pa_cons pe_int pa_nil))) (pe_op op_rep (pe_lst (pa_cons (pe_lst pa_nil) pa_nil)) pe_int) (nomark _))))))))))))))))))))), ?_⟩
    show (_ : TS) _ [some (.ref a), none, none, none, none, none, none, none, none, none, none] H
    obtain ⟨hB, hl⟩ := hp
    have hln : Len ns := by show _ ≤ 30000; omega
    have hpre : Bits ns ∧ Len ns := ⟨hB, hln⟩
    have pn : ∀ {σ : L2.St} {H : Hp}, EvL (tLst tNil) σ H [] := el_lst ea_nil (by decide)
    have hfar : 0 ≤ cellAt ns 0 % 100000000000000000000 ∧ cellAt ns 0 % 100000000000000000000 < 100000000000000000000 := rest_ok (by decide) _
    refine q_asg (v := .int (cellAt ns 0 % 100000000000000000000)) (ev_mod (ev_call (ea_two (ev_var rfl) ev_c) (go_Liv hS ⟨by decide, hln⟩ rfl)) (ev_is (ev_pow ev_c ev_c ⟨by decide, by decide, by decide⟩) (congrArg V.int (show _ = (100000000000000000000 : Int) by decide))) (by decide)) fun H1 e1 => ?_
    generalize cellAt ns 0 % 100000000000000000000 = far at hfar
    refine q_asgL pn fun d H2 hd e2 h2 => ?_
    refine q_forR1 (n := 5) (ea_one ev_c) (by decide) (fun k σ' H' => ∃ y3, σ' = [some (.ref a), some (.int far), some (.ref d), y3, none, none, none, none, none, none, none] ∧ Ex H1 H' ∧ ∃ ds, H' d = some (.lst (rs ds)) ∧ ds.length = k ∧ ∀ j b, ds[j]? = some b → b ≠ d ∧ H' b = some (.lst ((kindsB j).map V.bl))) (fun H3 e3 => ⟨none, rfl, e2.trans e3, [], e3 _ _ h2, rfl, (fun j b h => by cases h)⟩) (fun k σ' H' hk w => ?_) fun σ' H' w => ?_
    · obtain ⟨y3, rfl, e3, ds, h3, hdl, hds⟩ := w
      have hk : (k : Int) < 5 := hk
      refine s_appL h3 (ev_var rfl) (el_as (el_lst (ea_cons (ev_eqI (ev_var rfl) ev_c) (ea_cons (ev_eqI (ev_var rfl) ev_c) (ea_cons (ev_eqI (ev_var rfl) ev_c) (ea_three (ev_eqI (ev_var rfl) ev_c) (ev_eqI (ev_var rfl) ev_c) ev_c)))) (Nat.le_of_ble_eq_true rfl)) (kinds_row (by omega))) (by rw [rs_len]; omega) fun b H4 hb e4 h4 => ?_
      have nb : b ≠ d := (ne_of_none h3 hb).symm
      refine ⟨_, rfl, (e3.trans e4).mut hd, ds ++ [b], ?_, by rw [List.length_append, hdl]; rfl, fun j c hc => ?_⟩
      · rw [upd_same]
        unfold rs
        rw [List.map_append]
        rfl
      · by_cases hj : j < ds.length
        · rw [List.getElem?_append_left hj] at hc
          obtain ⟨n1, n2⟩ := hds j c hc
          exact ⟨n1, by rw [upd_ne n1]; exact e4 _ _ n2⟩
        · have hj2 := (List.getElem?_eq_some_iff.mp hc).1
          rw [List.length_append, List.length_singleton] at hj2
          have hj3 : j = k := by omega
          subst hj3
          have : c = b := by
            rw [List.getElem?_append_right (by omega), hdl, Nat.sub_self] at hc
            cases hc
            rfl
          subst this
          exact ⟨nb, by rw [upd_ne nb]; exact h4⟩
    obtain ⟨y3, rfl, e3, ds, h3, hdl, hds⟩ := w
    have hD : Dues H' d := ⟨ds, h3, hdl, fun j b h => (hds j b h).2⟩
    have s3 := ex_l (e1.trans e3) hS
    clear h2 h3 hds hd e2
    refine q_asgL (el_call (ea_two (ev_var rfl) ev_c) (go_Li s3 ⟨hpre, by decide⟩ rfl)) fun b H4 hb e4 h4 => ?_
    have m0 := heapM_made ns 0
    have m0l : (heapM ns 0).length ≤ 80 := m0.len
    generalize heapM ns 0 = hs at m0 m0l h4
    refine q_asgL (el_list (ev_var rfl) (sq_of h4)) fun kp H5 hkp e5 h5 => ?_
    have hD5 := hD.ex (e4.trans e5)
    have hb5 := e5 _ _ h4
    clear hD h4 s3 hS hb hkp
    have kl1 : ∀ {H : Hp} {i : Int}, ∀ v ∈ [V.int i], Kd H v := kds_cons kd_int kds_nil
    have tup1 : ∀ {σ : L2.St} {H : Hp} {i : Int}, EvS (tTup (tCons (tC (.int i)) tNil)) σ H (Tup (AllG Kd 1)) := es_tupA mo_kd (esp_cons mo_kd (es_kd ev_c kd_int) esp_nil) (by decide)
    have lst1 : ∀ {σ : L2.St} {H : Hp} {i : Int}, EvS (tLst (tCons (tC (.int i)) tNil)) σ H (Lst (new H) (AllG Kd 1)) := es_lstA mo_kd (esp_cons mo_kd (es_kd ev_c kd_int) esp_nil) (by decide)
    have bm := mo_bad
    refine q_asgSP (P := AllG BadJ 15) (esp_cons bm (es_badN ev_c .non) (esp_cons bm (es_badT (es_tupA mo_true esp_nil (by decide))) (esp_cons bm (es_badT tup1) (esp_cons bm (es_badN ev_c (.str _)) (esp_cons bm es_badD (esp_cons bm (es_badN ev_c (.int 5)) (esp_cons bm (es_badL (el_lst (ea_one ev_c) (by decide)) (kds_cons (.inl .non) kds_nil) (by decide) (by decide)) (esp_cons bm (es_badL (el_lst (ea_one ev_c) (by decide)) kl1 (by decide) (by decide)) (esp_cons bm (es_badL (el_lst (ea_two ev_c ev_c) (by decide)) (kds_cons kd_int kl1) (by decide) (by decide)) (esp_cons bm (es_badL (el_lst (ea_one (ev_sub (ev_neg ev_c) (ev_var rfl))) (Nat.le_of_ble_eq_true rfl)) kl1 (Nat.le_of_ble_eq_true rfl) (heap_bad (v := .int (-1 - far)) List.mem_cons_self (decide_eq_false (by omega)))) (esp_cons bm (es_badL (el_lst (ea_two ev_c ev_c) (by decide)) (kds_cons kd_int kl1) (by decide) (by decide)) (esp_cons bm (es_badL (el_lst (ea_three ev_c ev_c ev_c) (by decide)) (kds_cons kd_int (kds_cons kd_int kl1)) (by decide) (by decide)) (esp_cons bm (es_badL (el_lst (ea_one ev_c) (by decide)) (kds_cons (.inl (.bl true)) kds_nil) (by decide) (by decide)) (esp_cons bm (es_badL (el_lst (ea_two ev_c ev_c) (Nat.le_of_ble_eq_true rfl)) (kds_cons (.inl (.str _)) kl1) (Nat.le_of_ble_eq_true rfl) rfl) (esp_cons bm ?_ esp_nil))))))))))))))) (fun _ vs w => by rw [w.1]; decide) fun bd vs H6 H7 e6 hbd e7 h7 hv => ?_
    · refine es_imp (es_lst (Two.mo (G1 := Kd) (G2 := Lst (new H5) (AllG Kd 1)) mo_kd (Lst.mo (AllG.mo mo_kd))) (esp_two mo_kd (es_kd ev_c kd_int) lst1) two_len) fun H8 v _ w => ?_
      obtain ⟨c, xs, rfl, _, hc, x, y, rfl, kx, ky⟩ := w
      have ky2 := lst_kd ky
      obtain ⟨z, _, rfl, _⟩ := ky
      exact .inr ⟨c, _, rfl, hc, kds_cons kx (kds_cons ky2 kds_nil), Nat.le_of_ble_eq_true rfl, heap_bad (v := .ref z) (List.mem_cons_of_mem _ List.mem_cons_self) rfl⟩
    have hD6 := hD5.ex e6
    obtain ⟨rc, rl, ra⟩ := step_ok (l := hs.length) (by omega)
    obtain ⟨c, hc⟩ : ∃ c : Int, c = 1 + (hs.length : Int) / 6 := ⟨_, rfl⟩
    rw [← hc] at rc ra
    have hb7 := (e6.trans e7) _ _ hb5
    refine q_forRC (m := turns hs.length) (ea_three ev_c (ev_lenL (ev_var rfl) (sq_map hb7)) (ev_is (ev_add ev_c (ev_div (ev_lenL (ev_var rfl) (sq_map hb7)) ev_c ⟨by decide, by decide⟩)) (congrArg V.int hc.symm))) rc (fun k σ' H' => ∃ y7 xs, σ' = [some (.ref a), some (.int far), some (.ref d), y3, some (.ref b), some (.ref kp), some (.ref bd), y7, none, none, none] ∧ Ex H6 H' ∧ H' bd = some (.lst xs) ∧ xs.length = 15 + k ∧ ∀ x ∈ xs, x ≠ .ref bd ∧ BadJ H' x) (fun H8 e8 => ⟨none, vs, rfl, e7.trans e8, e8 _ _ h7, hv.1, fun x hx => ⟨(hv.2 x hx).ne hbd, (hv.2 x hx).ex (e7.trans e8)⟩⟩) (fun k σ' H' hk w => ?_) fun σ' H' w => ?_
    · obtain ⟨y7, xs, rfl, e8, h8, hxl, hx⟩ := w
      have hb8 := (e6.trans e8) _ _ hb5
      have hrk := ra k hk
      have hmul : 0 ≤ (k : Int) * c := Int.mul_nonneg (by omega) (by omega)
      obtain ⟨t, ht⟩ : ∃ t : Nat, 0 + (k : Int) * c = (t : Int) := ⟨(0 + (k : Int) * c).toNat, by omega⟩
      rw [ht]
      have htl : t < hs.length := by omega
      refine s_appS h8 (ev_var rfl) (es_cat3 (n := t) (m := hs.length - (t + 1)) (es_kdTake (ev_var rfl) (sq_map hb8) (ev_var rfl) (by omega)) (es_lstA mo_kdr (esp_cons mo_kdr (es_ixt (k := t % 7) (n := 7) (es_tupA mo_kdr (esp_cons mo_kdr (es_kdr ev_c (.inl .non) rfl) (esp_cons mo_kdr (es_kdr ev_c (.inl (.str _)) rfl) (esp_cons mo_kdr (es_kdr ev_c (.inl (.bl true)) rfl) (esp_cons mo_kdr (es_imp lst1 fun _ v _ w => ⟨lst_kd w, by obtain ⟨_, _, rfl, _⟩ := w; rfl⟩) (esp_cons mo_kdr (es_imp tup1 fun _ v _ w => ⟨.inl (tup_kdn w), by obtain ⟨_, _, rfl, _⟩ := w; rfl⟩) (esp_cons mo_kdr (es_int ev_c (by decide)) (esp_cons mo_kdr (es_int (ev_sub (ev_neg ev_c) (ev_var rfl)) (decide_eq_false (by omega))) esp_nil))))))) (by decide)) (ev_is (ev_mod (ev_var rfl) ev_c (by decide)) (congrArg V.int (by omega))) (Nat.mod_lt _ (by decide)) mo_kdr) esp_nil) (by decide)) (es_kdDrop (k := t + 1) (ev_var rfl) (sq_map hb8) (ev_is (ev_add (ev_var rfl) ev_c) (congrArg V.int (by omega)))) (by omega)) (by omega) fun v H9 e9 hg => ?_
      obtain ⟨g, rfl, hgn, hgb⟩ := hg
      have ng : g ≠ bd := (ne_of_none h8 hgn).symm
      refine ⟨_, xs ++ [.ref g], rfl, (e8.trans e9).mut hbd, upd_same, by rw [List.length_append, hxl]; rfl, fun x hx2 => ?_⟩
      rcases List.mem_append.mp hx2 with hx2 | hx2
      · exact ⟨(hx x hx2).1, ((hx x hx2).2.ex e9).mut (e9 _ _ h8) (hx x hx2).1⟩
      · have : x = .ref g := by simpa using hx2
        rw [this]
        have ng2 : V.ref g ≠ .ref bd := fun e => ng (by cases e; rfl)
        exact ⟨ng2, hgb.mut (e9 _ _ h8) ng2⟩
    obtain ⟨y7, xs, rfl, e8, h8, hxl, hx⟩ := w
    have w8 : Lst Rh.any (AllG BadJ (15 + turns hs.length)) H' (.ref bd) := ⟨bd, xs, rfl, trivial, h8, hxl, fun x hx2 => (hx x hx2).2⟩
    have hD8 := hD6.ex e8
    have hb8 := (e6.trans e8) _ _ hb5
    have hk8 := (e6.trans e8) _ _ h5
    clear h8 hxl hx hv h7 hbd hb5 h5 hD5 hD6 hb7 rc ra hc
    refine q_forR1 (n := 10) (ea_one ev_c) (by decide) (fun k σ' H'' => ∃ y8, σ' = [some (.ref a), some (.int far), some (.ref d), y3, some (.ref b), some (.ref kp), some (.ref bd), y7, y8, none, none] ∧ Ex H' H'') (fun H9 e9 => ⟨none, rfl, e9⟩) (fun k σ' H9 hk w => ?_) fun σ' H9 w => ?_
    · obtain ⟨y8, rfl, e9⟩ := w
      have hk : (k : Int) < 10 := hk
      refine s_when (b := false) (et_is (et_not (et_B (ev_allD (X := fun _ x => ∃ i, x = .int i ∧ 0 ≤ i ∧ i < 10) (fun _ _ _ _ h => h) bm (Or.inl ⟨rfl, rfl⟩) (j := 0) (n := 15 + turns hs.length) (by decide) (by omega) ev_c (es_of (ev_var rfl) fun _ _ => ⟨_, rfl, by omega, hk⟩) (es_of (ev_var rfl) fun H10 e10 => Lst.mo (AllG.mo bm) _ _ _ (e9.trans e10) w8) (fun _ _ => ask_heap) (hD8.ex e9) rfl rfl))) rfl) (fun h => nomatch h) fun _ H10 e10 => ?_
      exact ⟨_, rfl, e9.trans e10⟩
    obtain ⟨y8, rfl, e9⟩ := w
    have hD9 := hD8.ex e9
    have hb9 := e9 _ _ hb8
    have hk9 := e9 _ _ hk8
    refine q_asgSP (P := Mix Odd (KdR fun v => lenB v = false) 7 3) (mix_cons mo_odd odd_kdr (es_odd ev_c (.inl .non) rfl) (mix_cons mo_odd odd_kdr (es_odd ev_c (.inl (.str _)) rfl) (mix_cons mo_odd odd_kdr (es_odd ev_c (.inl (.bl true)) rfl) (mix_cons mo_odd odd_kdr (es_odd ev_c (.inl (.bl false)) rfl) (mix_cons mo_odd odd_kdr (es_oddL lst1) (mix_cons mo_odd odd_kdr (es_oddT tup1) (mix_cons mo_odd odd_kdr es_oddD (mix_nil (esp_cons mo_kdr (es_int ev_c (by decide)) (esp_cons mo_kdr (es_int (ev_neg ev_c) (by decide)) (esp_cons mo_kdr (es_int (ev_sub (ev_neg ev_c) (ev_var rfl)) (decide_eq_false (by omega))) esp_nil))))))))))) (mix_len (by decide)) fun sd ws H10 H11 e10 _ e11 h11 hm => ?_
    have w11 : Lst Rh.any (AllG (KdR fun v => lenB v = false) 10) H11 (.ref sd) := ⟨sd, ws, rfl, trivial, h11, hm.1, fun x hx => mo_kdr _ _ _ e11 (hm.2.2 x hx)⟩
    have o11 : ∀ x ∈ ws.take 7, Odd H11 x := fun x hx => mo_odd _ _ _ e11 (hm.2.1 x hx)
    have wl : ws.length = 10 := hm.1
    have hD11 := hD9.ex (e10.trans e11)
    have hb11 := (e10.trans e11) _ _ hb9
    have hk11 := (e10.trans e11) _ _ hk9
    clear hm
    refine q_forR1 (n := 7) (ea_one ev_c) (by decide) (fun k σ' H'' => ∃ y8, σ' = [some (.ref a), some (.int far), some (.ref d), y3, some (.ref b), some (.ref kp), some (.ref bd), y7, y8, some (.ref sd), none] ∧ Ex H11 H'') (fun H12 e12 => ⟨_, rfl, e12⟩) (fun k σ' H12 hk w => ?_) fun σ' H12 w => ?_
    · obtain ⟨y8, rfl, e12⟩ := w
      have hk : (k : Int) < 7 := hk
      refine s_when (b := false) (et_is (et_not (et_B (ev_allD (X := fun _ x => ∃ i, x = .int i ∧ 0 ≤ i ∧ i < 7) (fun _ _ _ _ h => h) mo_kdr (Or.inr (Or.inl ⟨rfl, rfl⟩)) (j := 1) (n := 10) (by decide) (by decide) ev_c (es_of (ev_var rfl) fun _ _ => ⟨_, rfl, by omega, hk⟩) (es_of (ev_var rfl) fun H10 e10 => Lst.mo (AllG.mo mo_kdr) _ _ _ (e12.trans e10) w11) (fun _ _ => ask_len) (hD11.ex e12) rfl rfl))) rfl) (fun h => nomatch h) fun _ H13 e13 => ?_
      exact ⟨_, rfl, e12.trans e13⟩
    obtain ⟨y8, rfl, e12⟩ := w
    have two : ∀ {σ : L2.St} {H : Hp}, σ[1]? = some (some (.int far)) → EvS (tLst (tCons (tC (.int 101)) (tCons (tOp (rI0 fun i j => .int (i + j)) (tC (.int 101)) (tVar 1)) tNil))) σ H (Lst (new H) (AllG (KdR fun v => fewB v = false) 2)) := fun h => es_lstA mo_kdr (esp_cons mo_kdr (es_int ev_c (by decide)) (esp_cons mo_kdr (es_int (ev_add ev_c (ev_var h)) (by
      show (decide (1 ≤ 101 + far) && decide (101 + far ≤ 100)) = false
      rw [decide_eq_false (show ¬ 101 + far ≤ 100 by omega), Bool.and_false])) esp_nil)) (by decide)
    refine q_when (b := false) (et_is (et_not (et_B (ev_allD (X := fun _ x => ∃ i, x = .int i ∧ 5 ≤ i ∧ i < 7) (fun _ _ _ _ h => h) mo_kdr (Or.inr (Or.inl ⟨rfl, rfl⟩)) (j := 1) (n := 2) (by decide) (by decide) ev_c (es_of ev_c fun _ _ => ⟨5, rfl, by decide, by decide⟩) (two rfl) (fun _ _ => ask_few) (hD11.ex e12) rfl rfl))) rfl) (fun h => nomatch h) fun _ H13 e13 => ?_
    refine q_when (b := false) (et_is (et_not (et_B (ev_allD (X := fun _ x => ∃ i, x = .int i ∧ 5 ≤ i ∧ i < 7) (fun _ _ _ _ h => h) mo_kdr (Or.inr (Or.inl ⟨rfl, rfl⟩)) (j := 1) (n := 2) (by decide) (by decide) ev_c (es_of ev_c fun _ _ => ⟨6, rfl, by decide, by decide⟩) (two rfl) (fun _ _ => ask_few) (hD11.ex (e12.trans e13)) rfl rfl))) rfl) (fun h => nomatch h) fun _ H14 e14 => ?_
    have e114 := (e12.trans e13).trans e14
    have hD14 := hD11.ex e114
    refine q_when (b := false) (et_is (et_or (et_not (et_B (ev_call (ea_three (ev_var rfl) (ev_var rfl) (ev_var rfl)) (go_places (e114 _ _ h11) wl (fun x hx => mo_odd _ _ _ e114 (o11 x hx)) hfar hD14)))) fun _ => et_not (et_B (ev_call (ea_two (ev_var rfl) (ev_var rfl)) (go_parts_right hfar hD14)))) rfl) (fun h => nomatch h) fun _ H15 e15 => ?_
    have hD15 := hD14.ex e15
    have hb15 := (e114.trans e15) _ _ hb11
    have hk15 := (e114.trans e15) _ _ hk11
    clear w11 o11 wl h11
    have m12 : Mo fun _ v => ∃ i, v = V.int i ∧ (i = 1 ∨ i = 2) := fun _ _ _ _ h => h
    refine q_forSP (n := 2) (G := fun _ v => ∃ i, v = .int i ∧ (i = 1 ∨ i = 2)) m12 (esp_cons m12 (es_of ev_c fun _ _ => ⟨1, rfl, .inl rfl⟩) (esp_cons m12 (es_of ev_c fun _ _ => ⟨2, rfl, .inr rfl⟩) esp_nil)) (by decide) (fun H0 σ' H' => ∃ y10, σ' = [some (.ref a), some (.int far), some (.ref d), y3, some (.ref b), some (.ref kp), some (.ref bd), y7, y8, some (.ref sd), y10] ∧ Ex H0 H') (fun H0 σ' H' w => by obtain ⟨_, _, e⟩ := w; exact e) (fun H16 e16 => ⟨none, rfl, Ex.refl H16⟩) (fun H0 x σ' H16 hx e0 w => ?_) fun H0 σ' H16 e0 w => ?_
    · obtain ⟨y10, rfl, e16⟩ := w
      obtain ⟨i, rfl, hi⟩ := hx
      have m1 : Mo fun _ v => v = V.int i := fun _ _ _ _ h => h
      refine s_when (b := false) (et_is (et_not (et_B (ev_allD (X := GoodS K fun ns => 1000 < rimsIn ns i) (G := fun _ v => v = .int i) mo_goodS m1 (Or.inr (Or.inr (Or.inr (Or.inr (Or.inr ⟨rfl, rfl⟩))))) (j := 4) (n := 1) (by decide) (by decide) ev_c (es_goodS (ns := [1001 * i + far]) (el_lst (ea_one (ev_add (ev_mulW ev_c (ev_var rfl) (mul_small (by decide))) (ev_var rfl))) (Nat.le_of_ble_eq_true rfl)) (isHeap_one (by omega)) (Nat.le_of_ble_eq_true rfl) (by
        rw [rims_single]
        rcases hi with rfl | rfl <;> omega)) (es_lstA m1 (esp_cons m1 (es_of (ev_var rfl) fun _ _ => rfl) esp_nil) (by decide)) (fun _ _ w => ask_many w (by omega) (small_log (by omega) (by omega))) (hD15.ex (e0.trans e16)) rfl rfl))) rfl) (fun h => nomatch h) fun _ H17 e17 => ?_
      exact ⟨_, rfl, e16.trans e17⟩
    obtain ⟨y10, rfl, e16⟩ := w
    have e17 := e0.trans e16
    refine s_ret (v := .bl true) (ev_is (ev_andV (ev_eqL (ev_var rfl) (ev_var rfl) (sq_map (e17 _ _ hb15)) (sq_map (e17 _ _ hk15))) fun _ => ev_andV (ev_eqI (ev_goneRows T (ns := [1000]) (el_lst (ea_one ev_c) (by decide)) ev_c ⟨⟨isHeap_one (by decide), by decide⟩, by decide, by decide, by rw [rims_single]; decide⟩) ev_c) fun _ => ev_eqRep (ell_parts5 (ns := []) pn ev_c ⟨isHeap_nil, by decide, by decide, by decide⟩) pn ev_c (by decide)) ?_) fun H18 e18 => q H18
    rw [rims_single, parts_nil]
    simp
end
end Rh

namespace Rh
open PySem PySem.Spec PyProof.Rows L2 Evl
theorem all_mk {l : PySem.W.OpenLaw} {w : World} {K : PySem.W.Frag} {h : Heap} {mg : Str → Option Value} {fa : Addr} (X : K.In h) (G : h.Ns mainGlobals mg) (hfa : mg "law" = some (.ref fa))
    (E__law_cell_at : Facts K "_law_cell_at" s__law_cell_at)
    (E__law_draw : Facts K "_law_draw" s__law_draw)
    (E__law_value : Facts K "_law_value" s__law_value)
    (E__law_heap : Facts K "_law_heap" s__law_heap)
    (E_is_whole : Facts K "is_whole" s_is_whole)
    (E_is_heap : Facts K "is_heap" s_is_heap)
    (E_check_heap : Facts K "check_heap" s_check_heap)
    (E_marks_of : Facts K "marks_of" s_marks_of)
    (E_marks_by : Facts K "marks_by" s_marks_by)
    (E_squares : Facts K "squares" s_squares)
    (E_hook : Facts K "hook" s_hook)
    (E_check_length : Facts K "check_length" s_check_length)
    (E_rims_of : Facts K "rims_of" s_rims_of)
    (E_rims : Facts K "rims" s_rims)
    (E_heap_of : Facts K "heap_of" s_heap_of)
    (E_behind : Facts K "behind" s_behind)
    (E_taken : Facts K "taken" s_taken)
    (E_counts_of : Facts K "counts_of" s_counts_of)
    (E_core : Facts K "core" s_core)
    (E_rims_in : Facts K "rims_in" s_rims_in)
    (E_check_few : Facts K "check_few" s_check_few)
    (E_parts : Facts K "parts" s_parts)
    (E_joined : Facts K "joined" s_joined)
    (E_gone : Facts K "gone" s_gone)
    (E__law_with_heap : Facts K "_law_with_heap" s__law_with_heap)
    (E__law_with_length : Facts K "_law_with_length" s__law_with_length)
    (E__law_with_square : Facts K "_law_with_square" s__law_with_square)
    (E__law_with_row : Facts K "_law_with_row" s__law_with_row)
    (E__law_with_parts : Facts K "_law_with_parts" s__law_with_parts)
    (E__law_too_many : Facts K "_law_too_many" s__law_too_many)
    (E__law_kinds : Facts K "_law_kinds" s__law_kinds)
    (E__law_told : Facts K "_law_told" s__law_told)
    (E__law_all : Facts K "_law_all" s__law_all)
    (E__law_places_right : Facts K "_law_places_right" s__law_places_right)
    (E__law_parts_right : Facts K "_law_parts_right" s__law_parts_right)
    (E_law : Facts K "law" s_law)
    (GF : GoneF5 K s_Gone_init)
    (ER : ErrsF K)
    (U_MOST_cores : Num K "MOST_cores" 100)
    (U_MOST_telling : Num K "MOST_telling" 1000)
    (z_len : PySem.W.nsIn K mainGlobals "len" = some none)
    (z_sum : PySem.W.nsIn K mainGlobals "sum" = some none)
    (z_all : PySem.W.nsIn K mainGlobals "all" = some none)
    (z_sorted : PySem.W.nsIn K mainGlobals "sorted" = some none)
    (z_isinstance : PySem.W.nsIn K mainGlobals "isinstance" = some none)
    (z_enumerate : PySem.W.nsIn K mainGlobals "enumerate" = some none)
    (z_range : PySem.W.nsIn K mainGlobals "range" = some none)
    (z_list : PySem.W.nsIn K mainGlobals "list" = some none)
    (z_max : PySem.W.nsIn K mainGlobals "max" = some none)
    (z_min : PySem.W.nsIn K mainGlobals "min" = some none)
    (z_abs : PySem.W.nsIn K mainGlobals "abs" = some none)
    (z_int : PySem.W.nsIn K mainGlobals "int" = some none)
    (z_bool : PySem.W.nsIn K mainGlobals "bool" = some none) :
    ∃ fd : FuncData, (∀ (s : Shared) (v : Value), BindsTo s fd ⟨[v], []⟩ [("_law_script", v)]) ∧ ∀ base : Heap, K.In base → base.Ns mainGlobals mg → FnOk l.prog w K mg base CX0 10 fa fd ["_law_script"] (sp_law K) := by
  have B : Bl mg := ⟨PySem.W.mg_none_of X G z_len, PySem.W.mg_none_of X G z_sum, PySem.W.mg_none_of X G z_all, PySem.W.mg_none_of X G z_sorted, PySem.W.mg_none_of X G z_isinstance, PySem.W.mg_none_of X G z_enumerate, PySem.W.mg_none_of X G z_range, PySem.W.mg_none_of X G z_list, PySem.W.mg_none_of X G z_max, PySem.W.mg_none_of X G z_min, PySem.W.mg_none_of X G z_abs, PySem.W.mg_none_of X G z_int, PySem.W.mg_none_of X G z_bool⟩
  obtain ⟨f__law_cell_at, _, _, _, _, _, _, _, _, _, a__law_cell_at, l__law_cell_at, c__law_cell_at, k__law_cell_at⟩ := E__law_cell_at
  obtain ⟨f__law_draw, _, _, _, _, _, _, _, _, _, a__law_draw, l__law_draw, c__law_draw, k__law_draw⟩ := E__law_draw
  obtain ⟨f__law_value, _, _, _, _, _, _, _, _, _, a__law_value, l__law_value, c__law_value, k__law_value⟩ := E__law_value
  obtain ⟨f__law_heap, _, _, _, _, _, _, _, _, _, a__law_heap, l__law_heap, c__law_heap, k__law_heap⟩ := E__law_heap
  obtain ⟨f_is_whole, _, _, _, _, _, _, _, _, _, a_is_whole, l_is_whole, c_is_whole, k_is_whole⟩ := E_is_whole
  obtain ⟨f_is_heap, _, _, _, _, _, _, _, _, _, a_is_heap, l_is_heap, c_is_heap, k_is_heap⟩ := E_is_heap
  obtain ⟨f_check_heap, _, _, _, _, _, _, _, _, _, a_check_heap, l_check_heap, c_check_heap, k_check_heap⟩ := E_check_heap
  obtain ⟨f_marks_of, _, _, _, _, _, _, _, _, _, a_marks_of, l_marks_of, c_marks_of, k_marks_of⟩ := E_marks_of
  obtain ⟨f_marks_by, _, _, _, _, _, _, _, _, _, a_marks_by, l_marks_by, c_marks_by, k_marks_by⟩ := E_marks_by
  obtain ⟨f_squares, _, _, _, _, _, _, _, _, _, a_squares, l_squares, c_squares, k_squares⟩ := E_squares
  obtain ⟨f_hook, _, _, _, _, _, _, _, _, _, a_hook, l_hook, c_hook, k_hook⟩ := E_hook
  obtain ⟨f_check_length, _, _, _, _, _, _, _, _, _, a_check_length, l_check_length, c_check_length, k_check_length⟩ := E_check_length
  obtain ⟨f_rims_of, _, _, _, _, _, _, _, _, _, a_rims_of, l_rims_of, c_rims_of, k_rims_of⟩ := E_rims_of
  obtain ⟨f_rims, _, _, _, _, _, _, _, _, _, a_rims, l_rims, c_rims, k_rims⟩ := E_rims
  obtain ⟨f_heap_of, _, _, _, _, _, _, _, _, _, a_heap_of, l_heap_of, c_heap_of, k_heap_of⟩ := E_heap_of
  obtain ⟨f_behind, _, _, _, _, _, _, _, _, _, a_behind, l_behind, c_behind, k_behind⟩ := E_behind
  obtain ⟨f_taken, _, _, _, _, _, _, _, _, _, a_taken, l_taken, c_taken, k_taken⟩ := E_taken
  obtain ⟨f_counts_of, _, _, _, _, _, _, _, _, _, a_counts_of, l_counts_of, c_counts_of, k_counts_of⟩ := E_counts_of
  obtain ⟨f_core, _, _, _, _, _, _, _, _, _, a_core, l_core, c_core, k_core⟩ := E_core
  obtain ⟨f_rims_in, _, _, _, _, _, _, _, _, _, a_rims_in, l_rims_in, c_rims_in, k_rims_in⟩ := E_rims_in
  obtain ⟨f_check_few, _, _, _, _, _, _, _, _, _, a_check_few, l_check_few, c_check_few, k_check_few⟩ := E_check_few
  obtain ⟨f_parts, _, _, _, _, _, _, _, _, _, a_parts, l_parts, c_parts, k_parts⟩ := E_parts
  obtain ⟨f_joined, _, _, _, _, _, _, _, _, _, a_joined, l_joined, c_joined, k_joined⟩ := E_joined
  obtain ⟨f_gone, _, _, _, _, _, _, _, _, _, a_gone, l_gone, c_gone, k_gone⟩ := E_gone
  obtain ⟨f__law_with_heap, _, _, _, _, _, _, _, _, _, a__law_with_heap, l__law_with_heap, c__law_with_heap, k__law_with_heap⟩ := E__law_with_heap
  obtain ⟨f__law_with_length, _, _, _, _, _, _, _, _, _, a__law_with_length, l__law_with_length, c__law_with_length, k__law_with_length⟩ := E__law_with_length
  obtain ⟨f__law_with_square, _, _, _, _, _, _, _, _, _, a__law_with_square, l__law_with_square, c__law_with_square, k__law_with_square⟩ := E__law_with_square
  obtain ⟨f__law_with_row, _, _, _, _, _, _, _, _, _, a__law_with_row, l__law_with_row, c__law_with_row, k__law_with_row⟩ := E__law_with_row
  obtain ⟨f__law_with_parts, _, _, _, _, _, _, _, _, _, a__law_with_parts, l__law_with_parts, c__law_with_parts, k__law_with_parts⟩ := E__law_with_parts
  obtain ⟨f__law_too_many, _, _, _, _, _, _, _, _, _, a__law_too_many, l__law_too_many, c__law_too_many, k__law_too_many⟩ := E__law_too_many
  obtain ⟨f__law_kinds, _, _, _, _, _, _, _, _, _, a__law_kinds, l__law_kinds, c__law_kinds, k__law_kinds⟩ := E__law_kinds
  obtain ⟨f__law_told, _, _, _, _, _, _, _, _, _, a__law_told, l__law_told, c__law_told, k__law_told⟩ := E__law_told
  obtain ⟨f__law_all, _, _, _, _, _, _, _, _, _, a__law_all, l__law_all, c__law_all, k__law_all⟩ := E__law_all
  obtain ⟨f__law_places_right, _, _, _, _, _, _, _, _, _, a__law_places_right, l__law_places_right, c__law_places_right, k__law_places_right⟩ := E__law_places_right
  obtain ⟨f__law_parts_right, _, _, _, _, _, _, _, _, _, a__law_parts_right, l__law_parts_right, c__law_parts_right, k__law_parts_right⟩ := E__law_parts_right
  obtain ⟨f_law, oc, od, kV, doc, pm, an, cdv, ct, osl, a_law, l_law, c_law, k_law⟩ := E_law
  obtain ⟨Y, YH, Z⟩ := ER.ok X G
  obtain ⟨C, CA, f_Gone_init, _, _, _, _, _, _, _, _, _, g_C, g_CA, M_Gone_init, g_cl, g_nR, g_nL, l_Gone_init, c_Gone_init, k_Gone_init, g_hc, g_hg, g_ht, g_hm, g_iA⟩ := GF
  have T : GoneT K mg C CA := ⟨g_cl, g_nR, g_nL, PySem.W.mg_of X G g_C, PySem.W.mg_of X G g_CA, g_hc, g_hg, g_ht, g_hm, g_iA⟩
  obtain ⟨t_MOST_cores, n_MOST_cores⟩ := U_MOST_cores
  have c_MOST_cores := PySem.W.mg_of X G n_MOST_cores
  obtain ⟨t_MOST_telling, n_MOST_telling⟩ := U_MOST_telling
  have c_MOST_telling := PySem.W.mg_of X G n_MOST_telling
  have e := hfa.symm.trans (PySem.W.mg_of X G a_law)
  cases e
  refine ⟨PySem.W.fnOf "law" "law" (defArgs s_law) (defBody s_law) (defScope s_law) .none kV doc pm an cdv ct, fun s v => .of_eq rfl, fun base _ _ => ?_⟩
  have D__law_cell_at := ok__law_cell_at (P := l.prog) (w := w) (base := base) (fun_mk l__law_cell_at c__law_cell_at k__law_cell_at) (PySem.W.mg_of X G a__law_cell_at) B Z
  have D__law_draw := ok__law_draw (P := l.prog) (w := w) (base := base) (fun_mk l__law_draw c__law_draw k__law_draw) (PySem.W.mg_of X G a__law_draw) B Z
  have D__law_value := ok__law_value (P := l.prog) (w := w) (base := base) (fun_mk l__law_value c__law_value k__law_value) (PySem.W.mg_of X G a__law_value) B Z D__law_draw
  have D__law_heap := ok__law_heap (P := l.prog) (w := w) (base := base) (fun_mk l__law_heap c__law_heap k__law_heap) (PySem.W.mg_of X G a__law_heap) B Z D__law_draw D__law_cell_at D__law_value
  have D_is_whole := ok_is_whole (P := l.prog) (w := w) (base := base) (fun_mk l_is_whole c_is_whole k_is_whole) (PySem.W.mg_of X G a_is_whole) B Z
  have D_is_heap := ok_is_heap (P := l.prog) (w := w) (base := base) (fun_mk l_is_heap c_is_heap k_is_heap) (PySem.W.mg_of X G a_is_heap) B Z D_is_whole
  have D_check_heap := ok_check_heap (P := l.prog) (w := w) (base := base) (fun_mk l_check_heap c_check_heap k_check_heap) (PySem.W.mg_of X G a_check_heap) B Z D_is_heap
  have D_marks_of := ok_marks_of (P := l.prog) (w := w) (base := base) (fun_mk l_marks_of c_marks_of k_marks_of) (PySem.W.mg_of X G a_marks_of) B Z
  have D_marks_by := ok_marks_by (P := l.prog) (w := w) (base := base) (fun_mk l_marks_by c_marks_by k_marks_by) (PySem.W.mg_of X G a_marks_by) B Z D_check_heap D_marks_of
  have D_squares := ok_squares (P := l.prog) (w := w) (base := base) (fun_mk l_squares c_squares k_squares) (PySem.W.mg_of X G a_squares) B Z D_check_heap
  have D_hook := ok_hook (P := l.prog) (w := w) (base := base) (fun_mk l_hook c_hook k_hook) (PySem.W.mg_of X G a_hook) B Z D_check_heap D_is_whole
  have D_check_length := ok_check_length (P := l.prog) (w := w) (base := base) (fun_mk l_check_length c_check_length k_check_length) (PySem.W.mg_of X G a_check_length) B Z D_is_whole
  have D_rims_of := ok_rims_of (P := l.prog) (w := w) (base := base) (fun_mk l_rims_of c_rims_of k_rims_of) (PySem.W.mg_of X G a_rims_of) B Z D_marks_of
  have D_rims := ok_rims (P := l.prog) (w := w) (base := base) (fun_mk l_rims c_rims k_rims) (PySem.W.mg_of X G a_rims) B Z D_check_heap D_check_length D_rims_of
  have D_heap_of := ok_heap_of (P := l.prog) (w := w) (base := base) (fun_mk l_heap_of c_heap_of k_heap_of) (PySem.W.mg_of X G a_heap_of) B Z
  have D_behind := ok_behind (P := l.prog) (w := w) (base := base) (fun_mk l_behind c_behind k_behind) (PySem.W.mg_of X G a_behind) B Z D_marks_of D_heap_of
  have D_taken := ok_taken (P := l.prog) (w := w) (base := base) (fun_mk l_taken c_taken k_taken) (PySem.W.mg_of X G a_taken) B Z D_check_heap D_check_length D_is_whole D_rims_of D_behind
  have D_counts_of := ok_counts_of (P := l.prog) (w := w) (base := base) (fun_mk l_counts_of c_counts_of k_counts_of) (PySem.W.mg_of X G a_counts_of) B Z
  have D_core := ok_core (P := l.prog) (w := w) (base := base) (fun_mk l_core c_core k_core) (PySem.W.mg_of X G a_core) B Z D_check_heap D_check_length D_counts_of D_marks_of D_heap_of
  have D_rims_in := ok_rims_in (P := l.prog) (w := w) (base := base) (fun_mk l_rims_in c_rims_in k_rims_in) (PySem.W.mg_of X G a_rims_in) B Z D_check_heap D_check_length D_marks_of D_counts_of
  have D_check_few := ok_check_few (P := l.prog) (w := w) (base := base) (fun_mk l_check_few c_check_few k_check_few) (PySem.W.mg_of X G a_check_few) B Z D_check_length c_MOST_cores
  have D_parts := ok_parts (P := l.prog) (w := w) (base := base) (fun_mk l_parts c_parts k_parts) (PySem.W.mg_of X G a_parts) B Z D_check_heap D_check_few D_marks_of D_heap_of
  have D_joined := ok_joined (P := l.prog) (w := w) (base := base) (fun_mk l_joined c_joined k_joined) (PySem.W.mg_of X G a_joined) B Z D_check_heap D_check_few D_is_heap D_rims_of D_marks_of D_counts_of D_heap_of
  have D_Gone_init := ok_Gone_init (P := l.prog) (w := w) (base := base) (fun_mk l_Gone_init c_Gone_init k_Gone_init) B Z T M_Gone_init
  have D_gone := ok_gone (P := l.prog) (w := w) (base := base) (fun_mk l_gone c_gone k_gone) (PySem.W.mg_of X G a_gone) B Z T D_rims_in D_rims_of D_behind D_Gone_init c_MOST_telling
  have D__law_with_heap := ok__law_with_heap (P := l.prog) (w := w) (base := base) (fun_mk l__law_with_heap c__law_with_heap k__law_with_heap) (PySem.W.mg_of X G a__law_with_heap) B Z T D_marks_by D_squares D_hook D_rims D_taken D_core D_rims_in D_parts D_joined D_gone
  have D__law_with_length := ok__law_with_length (P := l.prog) (w := w) (base := base) (fun_mk l__law_with_length c__law_with_length k__law_with_length) (PySem.W.mg_of X G a__law_with_length) B Z T D_rims D_taken D_core D_rims_in D_gone D_parts D_joined
  have D__law_with_square := ok__law_with_square (P := l.prog) (w := w) (base := base) (fun_mk l__law_with_square c__law_with_square k__law_with_square) (PySem.W.mg_of X G a__law_with_square) B Z D_hook
  have D__law_with_row := ok__law_with_row (P := l.prog) (w := w) (base := base) (fun_mk l__law_with_row c__law_with_row k__law_with_row) (PySem.W.mg_of X G a__law_with_row) B Z D_taken
  have D__law_with_parts := ok__law_with_parts (P := l.prog) (w := w) (base := base) (fun_mk l__law_with_parts c__law_with_parts k__law_with_parts) (PySem.W.mg_of X G a__law_with_parts) B Z D_joined
  have D__law_too_many := ok__law_too_many (P := l.prog) (w := w) (base := base) (fun_mk l__law_too_many c__law_too_many k__law_too_many) (PySem.W.mg_of X G a__law_too_many) B Z T D_gone
  have D__law_kinds := ok__law_kinds (P := l.prog) (w := w) (base := base) (fun_mk l__law_kinds c__law_kinds k__law_kinds) (PySem.W.mg_of X G a__law_kinds) B Z
  have D__law_told := ok__law_told (P := l.prog) (w := w) (base := base) (fun_mk l__law_told c__law_told k__law_told) (PySem.W.mg_of X G a__law_told) B Z T D__law_kinds D__law_with_heap D__law_with_length D__law_with_square D__law_with_row D__law_with_parts D__law_too_many
  have D__law_all := ok__law_all (P := l.prog) (w := w) (base := base) (fun_mk l__law_all c__law_all k__law_all) (PySem.W.mg_of X G a__law_all) B Z T D__law_with_heap D__law_with_length D__law_with_square D__law_with_row D__law_with_parts D__law_too_many D__law_told
  have D__law_places_right := ok__law_places_right (P := l.prog) (w := w) (base := base) (fun_mk l__law_places_right c__law_places_right k__law_places_right) (PySem.W.mg_of X G a__law_places_right) B Z T D__law_with_heap D__law_with_length D__law_with_square D__law_with_row D__law_with_parts D__law_too_many D__law_all
  have D__law_parts_right := ok__law_parts_right (P := l.prog) (w := w) (base := base) (fun_mk l__law_parts_right c__law_parts_right k__law_parts_right) (PySem.W.mg_of X G a__law_parts_right) B Z T D__law_with_heap D__law_with_length D__law_with_square D__law_with_row D__law_with_parts D__law_too_many D__law_all
  have D_law := ok_law (P := l.prog) (w := w) (base := base) (fun_mk l_law c_law k_law) (PySem.W.mg_of X G a_law) B Z T D__law_cell_at D__law_heap D__law_places_right D__law_parts_right D_gone D_parts D__law_with_heap D__law_with_length D__law_with_square D__law_with_row D__law_with_parts D__law_too_many D__law_all
  exact D_law.ok
end Rh
open PySem PySem.W PyProof.Rows
set_option maxHeartbeats 0 in
theorem PySem.Challenge.cw_rimhooks_k05_refused_holds : PySem.Challenge.rw_rimhooks_k05_refused.Holds := by
  w_on; o_law; k_head; (case hw => w_witness2)
  k_fill
  refine L2.walk_ofB (l := PySem.Challenge.rw_rimhooks_k05_refused) (n := 63) (k := 10) (x := "_law_script") (CX := fun _ => L2.CX0) (sp := fun w => Rh.sp_law _) rfl (by decide) rfl ⟨rfl, by decide, by decide⟩ (fun w h Y => PySem.W.kIn_of Y) ?F (fun _ _ a ns hl hb _ hS => ⟨a, ns, rfl, hS, ⟨hb, hl⟩, fun _ => rfl⟩) (fun _ _ _ _ _ h => h)
  case F =>
    intro w mg fa h KX G hmg
    refine' Rh.all_mk KX G hmg ?E0 ?E1 ?E2 ?E3 ?E4 ?E5 ?E6 ?E7 ?E8 ?E9 ?E10 ?E11 ?E12 ?E13 ?E14 ?E15 ?E16 ?E17 ?E18 ?E19 ?E20 ?E21 ?E22 ?E23 ?E24 ?E25 ?E26 ?E27 ?E28 ?E29 ?E30 ?E31 ?E32 ?E33 ?E34 ?E35 ?GF ?ER ?U0 ?U1 ?z0 ?z1 ?z2 ?z3 ?z4 ?z5 ?z6 ?z7 ?z8 ?z9 ?z10 ?z11 ?z12
    (case E0 => refine' Rh.facts_mk ?a ?l ?c ?k; (case a => k_is); (case l => k_is); (case c => k_is); (case k => k_is))
    (case E1 => refine' Rh.facts_mk ?a ?l ?c ?k; (case a => k_is); (case l => k_is); (case c => k_is); (case k => k_is))
    (case E2 => refine' Rh.facts_mk ?a ?l ?c ?k; (case a => k_is); (case l => k_is); (case c => k_is); (case k => k_is))
    (case E3 => refine' Rh.facts_mk ?a ?l ?c ?k; (case a => k_is); (case l => k_is); (case c => k_is); (case k => k_is))
    (case E4 => refine' Rh.facts_mk ?a ?l ?c ?k; (case a => k_is); (case l => k_is); (case c => k_is); (case k => k_is))
    (case E5 => refine' Rh.facts_mk ?a ?l ?c ?k; (case a => k_is); (case l => k_is); (case c => k_is); (case k => k_is))
    (case E6 => refine' Rh.facts_mk ?a ?l ?c ?k; (case a => k_is); (case l => k_is); (case c => k_is); (case k => k_is))
    (case E7 => refine' Rh.facts_mk ?a ?l ?c ?k; (case a => k_is); (case l => k_is); (case c => k_is); (case k => k_is))
    (case E8 => refine' Rh.facts_mk ?a ?l ?c ?k; (case a => k_is); (case l => k_is); (case c => k_is); (case k => k_is))
    (case E9 => refine' Rh.facts_mk ?a ?l ?c ?k; (case a => k_is); (case l => k_is); (case c => k_is); (case k => k_is))
    (case E10 => refine' Rh.facts_mk ?a ?l ?c ?k; (case a => k_is); (case l => k_is); (case c => k_is); (case k => k_is))
    (case E11 => refine' Rh.facts_mk ?a ?l ?c ?k; (case a => k_is); (case l => k_is); (case c => k_is); (case k => k_is))
    (case E12 => refine' Rh.facts_mk ?a ?l ?c ?k; (case a => k_is); (case l => k_is); (case c => k_is); (case k => k_is))
    (case E13 => refine' Rh.facts_mk ?a ?l ?c ?k; (case a => k_is); (case l => k_is); (case c => k_is); (case k => k_is))
    (case E14 => refine' Rh.facts_mk ?a ?l ?c ?k; (case a => k_is); (case l => k_is); (case c => k_is); (case k => k_is))
    (case E15 => refine' Rh.facts_mk ?a ?l ?c ?k; (case a => k_is); (case l => k_is); (case c => k_is); (case k => k_is))
    (case E16 => refine' Rh.facts_mk ?a ?l ?c ?k; (case a => k_is); (case l => k_is); (case c => k_is); (case k => k_is))
    (case E17 => refine' Rh.facts_mk ?a ?l ?c ?k; (case a => k_is); (case l => k_is); (case c => k_is); (case k => k_is))
    (case E18 => refine' Rh.facts_mk ?a ?l ?c ?k; (case a => k_is); (case l => k_is); (case c => k_is); (case k => k_is))
    (case E19 => refine' Rh.facts_mk ?a ?l ?c ?k; (case a => k_is); (case l => k_is); (case c => k_is); (case k => k_is))
    (case E20 => refine' Rh.facts_mk ?a ?l ?c ?k; (case a => k_is); (case l => k_is); (case c => k_is); (case k => k_is))
    (case E21 => refine' Rh.facts_mk ?a ?l ?c ?k; (case a => k_is); (case l => k_is); (case c => k_is); (case k => k_is))
    (case E22 => refine' Rh.facts_mk ?a ?l ?c ?k; (case a => k_is); (case l => k_is); (case c => k_is); (case k => k_is))
    (case E23 => refine' Rh.facts_mk ?a ?l ?c ?k; (case a => k_is); (case l => k_is); (case c => k_is); (case k => k_is))
    (case E24 => refine' Rh.facts_mk ?a ?l ?c ?k; (case a => k_is); (case l => k_is); (case c => k_is); (case k => k_is))
    (case E25 => refine' Rh.facts_mk ?a ?l ?c ?k; (case a => k_is); (case l => k_is); (case c => k_is); (case k => k_is))
    (case E26 => refine' Rh.facts_mk ?a ?l ?c ?k; (case a => k_is); (case l => k_is); (case c => k_is); (case k => k_is))
    (case E27 => refine' Rh.facts_mk ?a ?l ?c ?k; (case a => k_is); (case l => k_is); (case c => k_is); (case k => k_is))
    (case E28 => refine' Rh.facts_mk ?a ?l ?c ?k; (case a => k_is); (case l => k_is); (case c => k_is); (case k => k_is))
    (case E29 => refine' Rh.facts_mk ?a ?l ?c ?k; (case a => k_is); (case l => k_is); (case c => k_is); (case k => k_is))
    (case E30 => refine' Rh.facts_mk ?a ?l ?c ?k; (case a => k_is); (case l => k_is); (case c => k_is); (case k => k_is))
    (case E31 => refine' Rh.facts_mk ?a ?l ?c ?k; (case a => k_is); (case l => k_is); (case c => k_is); (case k => k_is))
    (case E32 => refine' Rh.facts_mk ?a ?l ?c ?k; (case a => k_is); (case l => k_is); (case c => k_is); (case k => k_is))
    (case E33 => refine' Rh.facts_mk ?a ?l ?c ?k; (case a => k_is); (case l => k_is); (case c => k_is); (case k => k_is))
    (case E34 => refine' Rh.facts_mk ?a ?l ?c ?k; (case a => k_is); (case l => k_is); (case c => k_is); (case k => k_is))
    (case E35 => refine' Rh.facts_mk ?a ?l ?c ?k; (case a => k_is); (case l => k_is); (case c => k_is); (case k => k_is))
    (case GF => refine' Rh.goneF5_mk ?gf_aC ?gf_aA ?gf_a1 ?gf_i1 ?gf_l1 ?gf_c1 ?gf_k1 ?gf_pg ?gf_hd ?gf_po ?gf_sa ?gf_mk ?gf_kc ?gf_nR ?gf_nL ?gf_hc ?gf_hg ?gf_ht ?gf_hm ?gf_iA; (case gf_aC => k_is); (case gf_aA => k_is); (case gf_a1 => k_is); (case gf_i1 => k_is); (case gf_l1 => k_is); (case gf_c1 => k_is); (case gf_k1 => k_is); (case gf_pg => k_is); (case gf_hd => k_is); (case gf_po => k_is); (case gf_sa => k_is); (case gf_mk => k_is); (case gf_kc => k_is); (case gf_nR => k_is); (case gf_nL => k_is); (case gf_hc => k_is); (case gf_hg => k_is); (case gf_ht => k_is); (case gf_hm => k_is); (case gf_iA => kit_is))
    (case ER =>
      refine' Rh.errsF_mk ?er_x0 ?er_x1 ?er_x2 ?er_x3 ?er_x4 ?er_h ?er_v ?er_k01 ?er_k02 ?er_k03 ?er_k04 ?er_k10 ?er_k12 ?er_k13 ?er_k14 ?er_k20 ?er_k21 ?er_k23 ?er_k24 ?er_k30 ?er_k31 ?er_k32 ?er_k34 ?er_k40 ?er_k41 ?er_k42 ?er_k43 ?er_hs ?er_hd ?er_ht ?er_s0 ?er_s1 ?er_s2 ?er_s3 ?er_s4
      (case er_x0 => refine' Rh.excF_mk ?ex_a ?ex_xF ?ex_kF ?ex_hg ?ex_hk ?ex_hs ?ex_hd ?ex_ha ?ex_hn ?ex_ht ?ex_hm ?ex_tF ?ex_ve; (case ex_a => k_is); (case ex_xF => k_exc); (case ex_kF => k_is); (case ex_hg => k_is); (case ex_hk => k_is); (case ex_hs => k_is); (case ex_hd => k_is); (case ex_ha => k_is); (case ex_hn => k_is); (case ex_ht => k_is); (case ex_hm => k_is); (case ex_tF => k_is); (case ex_ve => kit_is))
      (case er_x1 => refine' Rh.excF_mk ?ex_a ?ex_xF ?ex_kF ?ex_hg ?ex_hk ?ex_hs ?ex_hd ?ex_ha ?ex_hn ?ex_ht ?ex_hm ?ex_tF ?ex_ve; (case ex_a => k_is); (case ex_xF => k_exc); (case ex_kF => k_is); (case ex_hg => k_is); (case ex_hk => k_is); (case ex_hs => k_is); (case ex_hd => k_is); (case ex_ha => k_is); (case ex_hn => k_is); (case ex_ht => k_is); (case ex_hm => k_is); (case ex_tF => k_is); (case ex_ve => kit_is))
      (case er_x2 => refine' Rh.excF_mk ?ex_a ?ex_xF ?ex_kF ?ex_hg ?ex_hk ?ex_hs ?ex_hd ?ex_ha ?ex_hn ?ex_ht ?ex_hm ?ex_tF ?ex_ve; (case ex_a => k_is); (case ex_xF => k_exc); (case ex_kF => k_is); (case ex_hg => k_is); (case ex_hk => k_is); (case ex_hs => k_is); (case ex_hd => k_is); (case ex_ha => k_is); (case ex_hn => k_is); (case ex_ht => k_is); (case ex_hm => k_is); (case ex_tF => k_is); (case ex_ve => kit_is))
      (case er_x3 => refine' Rh.excF_mk ?ex_a ?ex_xF ?ex_kF ?ex_hg ?ex_hk ?ex_hs ?ex_hd ?ex_ha ?ex_hn ?ex_ht ?ex_hm ?ex_tF ?ex_ve; (case ex_a => k_is); (case ex_xF => k_exc); (case ex_kF => k_is); (case ex_hg => k_is); (case ex_hk => k_is); (case ex_hs => k_is); (case ex_hd => k_is); (case ex_ha => k_is); (case ex_hn => k_is); (case ex_ht => k_is); (case ex_hm => k_is); (case ex_tF => k_is); (case ex_ve => kit_is))
      (case er_x4 => refine' Rh.excF_mk ?ex_a ?ex_xF ?ex_kF ?ex_hg ?ex_hk ?ex_hs ?ex_hd ?ex_ha ?ex_hn ?ex_ht ?ex_hm ?ex_tF ?ex_ve; (case ex_a => k_is); (case ex_xF => k_exc); (case ex_kF => k_is); (case ex_hg => k_is); (case ex_hk => k_is); (case ex_hs => k_is); (case ex_hd => k_is); (case ex_ha => k_is); (case ex_hn => k_is); (case ex_ht => k_is); (case ex_hm => k_is); (case ex_tF => k_is); (case ex_ve => kit_is))
      (case er_h => k_is)
      (case er_v => k_is)
      (case er_k01 => kit_is)
      (case er_k02 => kit_is)
      (case er_k03 => kit_is)
      (case er_k04 => kit_is)
      (case er_k10 => kit_is)
      (case er_k12 => kit_is)
      (case er_k13 => kit_is)
      (case er_k14 => kit_is)
      (case er_k20 => kit_is)
      (case er_k21 => kit_is)
      (case er_k23 => kit_is)
      (case er_k24 => kit_is)
      (case er_k30 => kit_is)
      (case er_k31 => kit_is)
      (case er_k32 => kit_is)
      (case er_k34 => kit_is)
      (case er_k40 => kit_is)
      (case er_k41 => kit_is)
      (case er_k42 => kit_is)
      (case er_k43 => kit_is)
      (case er_hs => k_is)
      (case er_hd => k_is)
      (case er_ht => k_is)
      (case er_s0 => k_is)
      (case er_s1 => k_is)
      (case er_s2 => k_is)
      (case er_s3 => k_is)
      (case er_s4 => k_is))
    (case U0 => refine' Rh.num_mk ?a; (case a => k_is))
    (case U1 => refine' Rh.num_mk ?a; (case a => k_is))
    (case z0 => k_is)
    (case z1 => k_is)
    (case z2 => k_is)
    (case z3 => k_is)
    (case z4 => k_is)
    (case z5 => k_is)
    (case z6 => k_is)
    (case z7 => k_is)
    (case z8 => k_is)
    (case z9 => k_is)
    (case z10 => k_is)
    (case z11 => k_is)
    (case z12 => k_is)
